import PyProof.Rows.All
import Wide.All
import OpenK.AllK
import Wide.FinOn
import HandS.ForMost
import HandS.ForExc
import HandS.Flow
import HandS.Style
import HandS.Conv
import HandS.Deep
import HandS.TupAny
import HandS.TupMul
import HandS.TupLe
import HandS.StrMore
import HandS.IsInst
import HandS.Wide
import HandS.Zip
import HandS.Defaults
import HandS.SortInts
import KE.KDictKeyed
import KE.GoesZip
import HandS.ExcIs
import KE.GoesMore
import KE.GoesEnum
import KE.KStateDown
import HandS.Head0
import HandS.Head1
import HandS.Head2
import HandS.HeadEnd
import HandS.HeadHook1
import HandS.HeadHook2
import KE.SortKeyed
import KE.DataCmp
import KE.SortData
import HandS.Strs
import KE.KCallOwn
import HandS.FStr
import HandS.OwnEq
import HandS.More
import HandS.Iter
import HandS.Dict
import KE.KDictWalk
import KE.KIndexOf
import HandS.TupSets
import PySem.Challenge.RW_lotscales_k40_whole_further
section
set_option Elab.async false
set_option linter.all false
set_option maxRecDepth 10000
namespace Lq
open PySem PySem.Spec PyProof.Rows L2
inductive PV where
  | non | bl (b : Bool) | int (i : Int) | str (s : Str)
  | tup (xs : List PV) | lst (xs : List PV) | scr (xs : List Int)
  | own (k : Nat) | glo (x : Str)
  deriving Inhabited
inductive Cell where
  | lst (xs : List PV)
  | frz (xs : List PV)
  | dct (kvs : List (PV × PV))
  | dcn (kvs : List (PV × PV))
  | dkf (kvs : List (PV × PV))
  | dnf (kvs : List (PV × PV))
  | tpl (xs : List PV)
  | ins (C : Str) (fs : List (Str × PV))
  | exc (c : Str)
  deriving Inhabited
abbrev Store := List Cell
abbrev Ev := List (Option PV)
inductive R (α : Type) where
  | ok (a : α) (s : Store)
  | ex (c : Str) (s : Store)
  | no
def R.bind {α β : Type} (r : R α) (k : α → Store → R β) : R β := match r with
  | .ok a s => k a s
  | .ex c s => .ex c s
  | .no => .no
inductive Fl where
  | nx (e : Ev) | rt (v : PV) | bk (e : Ev) | ct (e : Ev)
abbrev XE := Ev → Store → R PV
abbrev XL := Ev → Store → R (List PV)
abbrev XS := Ev → Store → R Fl
abbrev Fn := List PV → Store → R PV
section
variable (K : PySem.W.Frag) (mg : Str → Option Value)
mutual
def Rep (Fz : Hp) (ρ : List Addr) : PV → V → Prop
  | .non, v => v = .non
  | .bl b, v => v = .bl b
  | .int i, v => v = .int i
  | .str s, v => v = .str s
  | .tup xs, v => ∃ a vs, v = .ref a ∧ SqT K Fz a vs ∧ xs.length ≤ sizeLine ∧ RepL Fz ρ xs vs
  | .lst xs, v => ∃ a vs, v = .ref a ∧ Fz a = some (.lst vs) ∧ xs.length ≤ sizeLine ∧ RepL Fz ρ xs vs
  | .scr ns, v => ∃ a, v = .ref a ∧ SqL K Fz a (ns.map V.int) ∧ ns.length ≤ sizeLine
  | .own k, v => ∃ a, ρ[k]? = some a ∧ v = .ref a
  | .glo x, v => ∃ a, mg x = some (.ref a) ∧ v = .ref a
def RepL (Fz : Hp) (ρ : List Addr) : List PV → List V → Prop
  | [], vs => vs = []
  | x :: xs, vs => ∃ v r, vs = v :: r ∧ Rep Fz ρ x v ∧ RepL Fz ρ xs r
end
def REnv (Fz : Hp) (ρ : List Addr) (env : Ev) (σ : L2.St) : Prop :=
  env.length = σ.length ∧ ∀ (i : Nat) (p : PV), env[i]? = some (some p) → ∃ v, σ[i]? = some (some v) ∧ Rep K mg Fz ρ p v
def RepF (Fz : Hp) (ρ : List Addr) : List (Str × PV) → List (Str × V) → Prop := fun ps vs =>
  PySem.Paired (fun (p : Str × PV) (q : Str × V) => p.1 = q.1 ∧ Rep K mg Fz ρ p.2 q.2) ps vs
def XcO (cls : Value) (a : Addr) : HO := .ext fun h => ∃ (oe : Obj) (vs : Array Value), h.get? a = some oe ∧ Zc cls none oe ∧ oe.data = .fields vs
def KeyP : PV → Key → Prop
  | .int i, k => k = .inl i
  | .str s, k => k = .inr s
  | _, _ => False
def RepD (Fz : Hp) (ρ : List Addr) : List (PV × PV) → List (Key × V) → Prop := fun ps vs =>
  PySem.Paired (fun (p : PV × PV) (q : Key × V) => KeyP p.1 q.1 ∧ Rep K mg Fz ρ p.2 q.2) ps vs
def DctOk (Fz : Hp) (ρ : List Addr) (H : Hp) (a : Addr) (kvs : List (PV × PV)) : Prop := ∃ kv, H a = some (.dK kv) ∧ kvs.length ≤ sizeLine ∧ RepD K mg Fz ρ kvs kv
mutual
/-- a key that is a tuple of ints and of such tuples -/
def nkOf : PV → Option NestedKey
  | .int i => some (.num i)
  | .tup xs => (nksOf xs).map .tup
  | _ => none
def nksOf : List PV → Option (List NestedKey)
  | [] => some []
  | x :: r => match nkOf x, nksOf r with
    | some k, some ks => some (k :: ks)
    | _, _ => none
end
def NdO (a : Addr) (xs : List (NestedKey × Addr × V)) : HO := .ext fun h => ∃ o es ep, h.get? a = some o ∧ o.ExactDict ∧ o.data = .dict es ep ∧
  PySem.Paired (fun (e : DictEntry) (x : NestedKey × Addr × V) => (∀ w : World, e.hash = x.1.hash w) ∧ e.key = .ref x.2.1 ∧ RelV x.2.2 e.val) es.toList xs
def RepN (Fz : Hp) (ρ : List Addr) : List (PV × PV) → List (NestedKey × Addr × V) → Prop := fun ps vs => (∀ x ∈ vs, x.1.depth ≤ 8) ∧
  PySem.Paired (fun (p : PV × PV) (x : NestedKey × Addr × V) => nkOf p.1 = some x.1 ∧ Rep K mg Fz ρ p.1 (.ref x.2.1) ∧ Rep K mg Fz ρ p.2 x.2.2) ps vs
def DcnOk (Fz : Hp) (ρ : List Addr) (H : Hp) (a : Addr) (kvs : List (PV × PV)) : Prop := ∃ xs, H a = some (NdO a xs) ∧ kvs.length ≤ sizeLine ∧ RepN K mg Fz ρ kvs xs ∧ (xs.map (·.1)).Nodup ∧ (a == sysModules) = false
def CellOk (Fz : Hp) (ρ : List Addr) (H : Hp) (a : Addr) : Cell → Prop
  | .lst xs => ∃ vs, H a = some (.lst vs) ∧ xs.length ≤ sizeLine ∧ RepL K mg Fz ρ xs vs
  | .frz xs => ∃ vs, Fz a = some (.lst vs) ∧ xs.length ≤ sizeLine ∧ RepL K mg Fz ρ xs vs
  | .dct kvs => DctOk K mg Fz ρ H a kvs
  | .dcn kvs => DcnOk K mg Fz ρ H a kvs
  | .dkf kvs => ∃ od kv, Fz a = some (.frz od (.dK kv)) ∧ kvs.length ≤ sizeLine ∧ RepD K mg Fz ρ kvs kv
  | .dnf kvs => ∃ od xs, Fz a = some (.frz od (NdO a xs)) ∧ kvs.length ≤ sizeLine ∧ RepN K mg Fz ρ kvs xs ∧ (xs.map (·.1)).Nodup ∧ (a == sysModules) = false
  | .tpl xs => ∃ od vs, Fz a = some (.frz od (.tup vs)) ∧ od.dict = none ∧ xs.length ≤ sizeLine ∧ RepL K mg Fz ρ xs vs
  | .ins x fs => ∃ C dx vs, mg x = some (.ref C) ∧ H a = some (.ins C dx vs) ∧ fs.length ≤ 900 ∧ RepF K mg Fz ρ fs vs
  | .exc c => ∃ C, mg c = some (.ref C) ∧ H a = some (XcO (.ref C) a)
def Cell.live : Cell → Bool
  | .frz _ => false
  | .dkf _ => false
  | .dnf _ => false
  | .tpl _ => false
  | _ => true
structure Rel (Z Fz : Hp) (ρ : List Addr) (st : Store) (H : Hp) : Prop where
  zf : ∀ a o, Z a = some o → H a = some o ∧ Fz a = none ∧ a ∉ ρ
  fz : ∀ a o, Fz a = some o → H a = some o
  len : ρ.length = st.length
  cell : ∀ (k : Nat) (a : Addr) (x : Cell), ρ[k]? = some a → st[k]? = some x → CellOk K mg Fz ρ H a x
  apart : ∀ (k : Nat) (a : Addr) (x : Cell), ρ[k]? = some a → st[k]? = some x → x.live = true → Fz a = none
  nd : ρ.Nodup
structure Ext (Fz : Hp) (ρ : List Addr) (Fz' : Hp) (ρ' : List Addr) : Prop where
  fz : ∀ a o, Fz a = some o → Fz' a = some o
  pre : ρ <+: ρ'
theorem Ext.refl {Fz : Hp} {ρ : List Addr} : Ext Fz ρ Fz ρ := ⟨fun _ _ h => h, List.prefix_refl _⟩
theorem Ext.trans {F1 F2 F3 : Hp} {r1 r2 r3 : List Addr} (a : Ext F1 r1 F2 r2) (b : Ext F2 r2 F3 r3) : Ext F1 r1 F3 r3 :=
  ⟨fun x o h => b.fz x o (a.fz x o h), a.pre.trans b.pre⟩
theorem Rd.mono {F F' : Hp} (h : ∀ a o, F a = some o → F' a = some o) {a : Addr} {u : HO} (r : Rd F a u) : Rd F' a u := by
  rcases r with r | ⟨o, r⟩
  · exact .inl (h _ _ r)
  · exact .inr ⟨o, h _ _ r⟩
variable {K mg}
theorem sqT_mono {F F' : Hp} (h : ∀ a o, F a = some o → F' a = some o) {a : Addr} {vs : List V} (r : SqT K F a vs) : SqT K F' a vs := by
  rcases r with r | r
  · exact .inl (Rd.mono h r)
  · exact .inr r
theorem sqL_mono {F F' : Hp} (h : ∀ a o, F a = some o → F' a = some o) {a : Addr} {vs : List V} (r : SqL K F a vs) : SqL K F' a vs := by
  rcases r with r | r
  · exact .inl (Rd.mono h r)
  · exact .inr r
theorem prefix_get {α : Type} {l l' : List α} (h : l <+: l') {k : Nat} {a : α} (e : l[k]? = some a) : l'[k]? = some a := by
  obtain ⟨t, rfl⟩ := h
  have hk : k < l.length := (List.getElem?_eq_some_iff.mp e).1
  rw [List.getElem?_append_left hk]; exact e
mutual
theorem Rep.mono {Fz Fz' : Hp} {ρ ρ' : List Addr} (e : Ext Fz ρ Fz' ρ') : ∀ {p : PV} {v : V}, Rep K mg Fz ρ p v → Rep K mg Fz' ρ' p v
  | .non, _, h => by simpa [Rep] using h
  | .bl _, _, h => by simpa [Rep] using h
  | .int _, _, h => by simpa [Rep] using h
  | .str _, _, h => by simpa [Rep] using h
  | .tup xs, _, h => by
    rw [Rep] at h ⊢
    obtain ⟨a, vs, e1, e2, e3, e4⟩ := h
    exact ⟨a, vs, e1, sqT_mono e.fz e2, e3, RepL.mono e e4⟩
  | .lst xs, _, h => by
    rw [Rep] at h ⊢
    obtain ⟨a, vs, e1, e2, e3, e4⟩ := h
    exact ⟨a, vs, e1, e.fz _ _ e2, e3, RepL.mono e e4⟩
  | .scr ns, _, h => by
    rw [Rep] at h ⊢
    obtain ⟨a, e1, e2, e3⟩ := h
    exact ⟨a, e1, sqL_mono e.fz e2, e3⟩
  | .own k, _, h => by
    rw [Rep] at h ⊢
    obtain ⟨a, e1, e2⟩ := h
    exact ⟨a, prefix_get e.pre e1, e2⟩
  | .glo x, _, h => by simpa [Rep] using h
theorem RepL.mono {Fz Fz' : Hp} {ρ ρ' : List Addr} (e : Ext Fz ρ Fz' ρ') : ∀ {ps : List PV} {vs : List V}, RepL K mg Fz ρ ps vs → RepL K mg Fz' ρ' ps vs
  | [], _, h => by simpa [RepL] using h
  | x :: xs, _, h => by
    rw [RepL] at h ⊢
    obtain ⟨v, r, e1, e2, e3⟩ := h
    exact ⟨v, r, e1, Rep.mono e e2, RepL.mono e e3⟩
end
theorem REnv.mono {Fz Fz' : Hp} {ρ ρ' : List Addr} (e : Ext Fz ρ Fz' ρ') {env : Ev} {σ : L2.St} (h : REnv K mg Fz ρ env σ) : REnv K mg Fz' ρ' env σ :=
  ⟨h.1, fun i p q => let ⟨v, a, b⟩ := h.2 i p q; ⟨v, a, b.mono e⟩⟩
theorem RepF.mono {Fz Fz' : Hp} {ρ ρ' : List Addr} (e : Ext Fz ρ Fz' ρ') {ps : List (Str × PV)} {vs : List (Str × V)} (h : RepF K mg Fz ρ ps vs) : RepF K mg Fz' ρ' ps vs :=
  L2.Paired.mapP h fun _ _ q => ⟨q.1, q.2.mono e⟩
theorem RepL.len {Fz : Hp} {ρ : List Addr} : ∀ {ps : List PV} {vs : List V}, RepL K mg Fz ρ ps vs → ps.length = vs.length
  | [], _, h => by rw [RepL] at h; subst h; rfl
  | x :: xs, _, h => by
    rw [RepL] at h
    obtain ⟨v, r, rfl, _, h⟩ := h
    simp [RepL.len h]
theorem RepL.get {Fz : Hp} {ρ : List Addr} : ∀ {ps : List PV} {vs : List V} {i : Nat} {p : PV}, RepL K mg Fz ρ ps vs → ps[i]? = some p → ∃ v, vs[i]? = some v ∧ Rep K mg Fz ρ p v
  | [], _, _, _, _, e => by simp at e
  | x :: xs, _, 0, p, h, e => by
    rw [RepL] at h
    obtain ⟨v, r, rfl, h1, _⟩ := h
    simp at e; subst e
    exact ⟨v, rfl, h1⟩
  | x :: xs, _, i + 1, p, h, e => by
    rw [RepL] at h
    obtain ⟨v, r, rfl, _, h⟩ := h
    obtain ⟨v', e1, e2⟩ := RepL.get (i := i) h (by simpa using e)
    exact ⟨v', by simpa using e1, e2⟩
theorem RepL.app {Fz : Hp} {ρ : List Addr} : ∀ {ps qs : List PV} {vs ws : List V}, RepL K mg Fz ρ ps vs → RepL K mg Fz ρ qs ws → RepL K mg Fz ρ (ps ++ qs) (vs ++ ws)
  | [], _, _, _, h, h' => by rw [RepL] at h; subst h; exact h'
  | x :: xs, qs, _, ws, h, h' => by
    rw [RepL] at h
    obtain ⟨v, r, rfl, h1, h⟩ := h
    show RepL K mg Fz ρ (x :: (xs ++ qs)) (v :: (r ++ ws))
    rw [RepL]
    exact ⟨v, _, rfl, h1, RepL.app h h'⟩
theorem RepL.nil {Fz : Hp} {ρ : List Addr} : RepL K mg Fz ρ [] [] := by rw [RepL]
theorem RepL.cons {Fz : Hp} {ρ : List Addr} {p : PV} {v : V} {ps : List PV} {vs : List V} (h : Rep K mg Fz ρ p v) (h' : RepL K mg Fz ρ ps vs) : RepL K mg Fz ρ (p :: ps) (v :: vs) := by
  rw [RepL]; exact ⟨_, _, rfl, h, h'⟩
theorem RepL.drop {Fz : Hp} {ρ : List Addr} : ∀ {ps : List PV} {vs : List V} (n : Nat), RepL K mg Fz ρ ps vs → RepL K mg Fz ρ (ps.drop n) (vs.drop n)
  | _, _, 0, h => h
  | [], _, _ + 1, h => by rw [RepL] at h; subst h; exact RepL.nil
  | x :: xs, _, n + 1, h => by
    rw [RepL] at h
    obtain ⟨v, r, rfl, _, h⟩ := h
    exact RepL.drop n h
theorem RepL.take {Fz : Hp} {ρ : List Addr} : ∀ {ps : List PV} {vs : List V} (n : Nat), RepL K mg Fz ρ ps vs → RepL K mg Fz ρ (ps.take n) (vs.take n)
  | _, _, 0, _ => RepL.nil
  | [], _, _ + 1, h => by rw [RepL] at h; subst h; exact RepL.nil
  | x :: xs, _, n + 1, h => by
    rw [RepL] at h
    obtain ⟨v, r, rfl, h1, h⟩ := h
    exact RepL.cons h1 (RepL.take n h)
theorem RepL.set {Fz : Hp} {ρ : List Addr} {p : PV} {v : V} (hp : Rep K mg Fz ρ p v) : ∀ {ps : List PV} {vs : List V} (n : Nat), RepL K mg Fz ρ ps vs → RepL K mg Fz ρ (ps.set n p) (vs.set n v)
  | [], _, _, h => by rw [RepL] at h; subst h; exact RepL.nil
  | x :: xs, _, 0, h => by
    rw [RepL] at h
    obtain ⟨w, r, rfl, _, h⟩ := h
    exact RepL.cons hp h
  | x :: xs, _, n + 1, h => by
    rw [RepL] at h
    obtain ⟨w, r, rfl, h1, h⟩ := h
    exact RepL.cons h1 (RepL.set hp n h)
theorem RepL.flat {Fz : Hp} {ρ : List Addr} {ps : List PV} {vs : List V} (h : RepL K mg Fz ρ ps vs) : ∀ n : Nat, RepL K mg Fz ρ (List.replicate n ps).flatten (List.replicate n vs).flatten
  | 0 => RepL.nil
  | n + 1 => by
    rw [List.replicate_succ, List.replicate_succ, List.flatten_cons, List.flatten_cons]
    exact RepL.app h (RepL.flat h n)
theorem RepL.ints {Fz : Hp} {ρ : List Addr} : ∀ ns : List Int, RepL K mg Fz ρ (ns.map PV.int) (ns.map V.int)
  | [] => RepL.nil
  | n :: ns => RepL.cons (by rw [Rep]) (RepL.ints ns)
theorem RepL.of_ints {Fz : Hp} {ρ : List Addr} : ∀ {ns : List Int} {vs : List V}, RepL K mg Fz ρ (ns.map PV.int) vs → vs = ns.map V.int
  | [], _, h => by rw [List.map_nil, RepL] at h; exact h
  | n :: ns, _, h => by
    rw [List.map_cons, RepL] at h
    obtain ⟨v, r, rfl, h1, h⟩ := h
    rw [Rep] at h1
    rw [h1, RepL.of_ints h]; rfl
theorem nodup_ix {l : List Addr} (h : l.Nodup) {i j : Nat} {a : Addr} (ei : l[i]? = some a) (ej : l[j]? = some a) : i = j := by
  obtain ⟨hi, qi⟩ := List.getElem?_eq_some_iff.mp ei
  obtain ⟨hj, qj⟩ := List.getElem?_eq_some_iff.mp ej
  have P := List.pairwise_iff_getElem.mp h
  rcases Nat.lt_trichotomy i j with z | z | z
  · exact absurd (qi.trans qj.symm) (P i j hi hj z)
  · exact z
  · exact absurd (qj.trans qi.symm) (P j i hj hi z)
section
variable {Z Fz : Hp} {ρ : List Addr} {st : Store} {H : Hp}
theorem CellOk.mono {Fz' : Hp} {ρ' : List Addr} {H' : Hp} {a : Addr} (e : Ext Fz ρ Fz' ρ') (hH : ∀ o, H a = some o → H' a = some o) : ∀ {c : Cell}, CellOk K mg Fz ρ H a c → CellOk K mg Fz' ρ' H' a c
  | .lst xs, h => let ⟨vs, h1, h2, h3⟩ := h; ⟨vs, hH _ h1, h2, h3.mono e⟩
  | .frz xs, h => let ⟨vs, h1, h2, h3⟩ := h; ⟨vs, e.fz _ _ h1, h2, h3.mono e⟩
  | .dct kvs, h => let ⟨kv, h1, h2, h3⟩ := h; ⟨kv, hH _ h1, h2, L2.Paired.mapP h3 fun _ _ z => ⟨z.1, z.2.mono e⟩⟩
  | .dcn kvs, h => let ⟨kv, h1, h2, h3, h4, h5⟩ := h; ⟨kv, hH _ h1, h2, ⟨h3.1, L2.Paired.mapP h3.2 fun _ _ z => ⟨z.1, z.2.1.mono e, z.2.2.mono e⟩⟩, h4, h5⟩
  | .dkf kvs, h => let ⟨od, kv, h1, h2, h3⟩ := h; ⟨od, kv, e.fz _ _ h1, h2, L2.Paired.mapP h3 fun _ _ z => ⟨z.1, z.2.mono e⟩⟩
  | .dnf kvs, h => let ⟨od, kv, h1, h2, h3, h4, h5⟩ := h; ⟨od, kv, e.fz _ _ h1, h2, ⟨h3.1, L2.Paired.mapP h3.2 fun _ _ z => ⟨z.1, z.2.1.mono e, z.2.2.mono e⟩⟩, h4, h5⟩
  | .tpl xs, h => let ⟨od, vs, h1, h2, h3, h4⟩ := h; ⟨od, vs, e.fz _ _ h1, h2, h3, h4.mono e⟩
  | .ins x fs, h => let ⟨C, dx, vs, h0, h1, h2, h3⟩ := h; ⟨C, dx, vs, h0, hH _ h1, h2, h3.mono e⟩
  | .exc c, h => let ⟨C, h0, h1⟩ := h; ⟨C, h0, hH _ h1⟩
theorem CellOk.some {a : Addr} (hf : ∀ a o, Fz a = some o → H a = some o) : ∀ {c : Cell}, CellOk K mg Fz ρ H a c → ∃ o, H a = some o
  | .lst xs, h => let ⟨vs, h1, _⟩ := h; ⟨_, h1⟩
  | .frz xs, h => let ⟨vs, h1, _⟩ := h; ⟨_, hf _ _ h1⟩
  | .dct kvs, h => let ⟨kv, h1, _⟩ := h; ⟨_, h1⟩
  | .dcn kvs, h => let ⟨kv, h1, _⟩ := h; ⟨_, h1⟩
  | .dkf kvs, h => let ⟨od, kv, h1, _⟩ := h; ⟨_, hf _ _ h1⟩
  | .dnf kvs, h => let ⟨od, kv, h1, _⟩ := h; ⟨_, hf _ _ h1⟩
  | .tpl xs, h => let ⟨od, vs, h1, _⟩ := h; ⟨_, hf _ _ h1⟩
  | .ins x fs, h => let ⟨C, dx, vs, h0, h1, _⟩ := h; ⟨_, h1⟩
  | .exc c, h => let ⟨C, h0, h1⟩ := h; ⟨_, h1⟩
theorem Rel.at (r : Rel K mg Z Fz ρ st H) {k : Nat} {a : Addr} (e : ρ[k]? = some a) : ∃ c, st[k]? = some c ∧ CellOk K mg Fz ρ H a c := by
  have hk : k < st.length := by rw [← r.len]; exact (List.getElem?_eq_some_iff.mp e).1
  exact ⟨st[k], by simp [hk], r.cell k a _ e (by simp [hk])⟩
theorem Rel.free (r : Rel K mg Z Fz ρ st H) {p : Addr} (hp : H p = none) : Fz p = none ∧ p ∉ ρ := by
  refine ⟨?_, fun hm => ?_⟩
  · cases e : Fz p with
    | none => rfl
    | some o => rw [r.fz _ _ e] at hp; cases hp
  · obtain ⟨k, hk, e⟩ := List.getElem_of_mem hm
    have e' : ρ[k]? = some p := by rw [List.getElem?_eq_getElem hk, e]
    obtain ⟨c, _, h⟩ := r.at e'
    obtain ⟨o, q⟩ := h.some r.fz
    rw [q] at hp; cases hp
theorem Rel.frozen (r : Rel K mg Z Fz ρ st H) {p : Addr} (hp : H p = none) (o : HO) : Rel K mg Z (upd Fz p o) ρ st (upd H p o) ∧ Ext Fz ρ (upd Fz p o) ρ := by
  obtain ⟨hf, hm⟩ := r.free hp
  have ex : Ext Fz ρ (upd Fz p o) ρ := ⟨fun a u e => by rw [upd_ne (fun z => by subst z; rw [hf] at e; cases e)]; exact e, List.prefix_refl _⟩
  refine ⟨⟨fun a u e => ?_, fun a u e => ?_, r.len, fun k a x e1 e2 => (r.cell k a x e1 e2).mono ex fun u q => ?_, fun k a x e1 e2 e3 => ?_, r.nd⟩, ex⟩
  · obtain ⟨z1, z2, z3⟩ := r.zf a u e
    have hap : a ≠ p := fun z => by subst z; rw [hp] at z1; cases z1
    exact ⟨by rw [upd_ne hap]; exact z1, by rw [upd_ne hap]; exact z2, z3⟩
  · by_cases h : a = p
    · subst h; rw [upd_same] at e ⊢; exact e
    · rw [upd_ne h] at e ⊢; exact r.fz _ _ e
  · rw [upd_ne (fun z => by subst z; rw [hp] at q; cases q)]; exact q
  · have hap : a ≠ p := fun z => hm (by subst z; exact List.mem_of_getElem? e1)
    rw [upd_ne hap]; exact r.apart k a x e1 e2 e3
theorem Rel.owned (r : Rel K mg Z Fz ρ st H) {p : Addr} (hp : H p = none) {o : HO} {c : Cell} (hl : c.live = true) (hc : CellOk K mg Fz (ρ ++ [p]) (upd H p o) p c) :
    Rel K mg Z Fz (ρ ++ [p]) (st ++ [c]) (upd H p o) ∧ Ext Fz ρ Fz (ρ ++ [p]) := by
  obtain ⟨hf, hm⟩ := r.free hp
  have ex : Ext Fz ρ Fz (ρ ++ [p]) := ⟨fun a u e => e, List.prefix_append _ _⟩
  have split : ∀ (k : Nat) (a : Addr) (x : Cell), (ρ ++ [p])[k]? = some a → (st ++ [c])[k]? = some x → (ρ[k]? = some a ∧ st[k]? = some x) ∨ (a = p ∧ x = c) := fun k a x e1 e2 => by
    by_cases h : k < ρ.length
    · rw [List.getElem?_append_left h] at e1
      rw [List.getElem?_append_left (by rw [← r.len]; exact h)] at e2
      exact .inl ⟨e1, e2⟩
    · have hk : k = ρ.length := by
        have := (List.getElem?_eq_some_iff.mp e1).1
        simp at this; omega
      subst hk
      rw [List.getElem?_append_right (Nat.le_refl _)] at e1
      rw [List.getElem?_append_right (by rw [r.len]; exact Nat.le_refl _), r.len] at e2
      simp at e1 e2
      exact .inr ⟨e1.symm, e2.symm⟩
  refine ⟨⟨fun a u e => ?_, fun a u e => ?_, by simp [r.len], fun k a x e1 e2 => ?_, fun k a x e1 e2 e3 => ?_, ?_⟩, ex⟩
  · obtain ⟨z1, z2, z3⟩ := r.zf a u e
    have hap : a ≠ p := fun z => by subst z; rw [hp] at z1; cases z1
    exact ⟨by rw [upd_ne hap]; exact z1, z2, fun h => by
      rcases List.mem_append.mp h with h | h
      · exact z3 h
      · exact hap (by simpa using h)⟩
  · rw [upd_ne (fun z => by subst z; rw [hf] at e; cases e)]; exact r.fz _ _ e
  · rcases split k a x e1 e2 with ⟨q1, q2⟩ | ⟨rfl, rfl⟩
    · have hap : a ≠ p := fun z => hm (by subst z; exact List.mem_of_getElem? q1)
      exact (r.cell k a x q1 q2).mono ex fun u q => by rw [upd_ne hap]; exact q
    · exact hc
  · rcases split k a x e1 e2 with ⟨q1, q2⟩ | ⟨rfl, rfl⟩
    · exact r.apart k a x q1 q2 e3
    · exact hf
  · rw [List.nodup_append]
    exact ⟨r.nd, by simp, fun a ha b hb => by simp at hb; subst hb; exact fun z => hm (by rw [← z]; exact ha)⟩
theorem Rel.write (r : Rel K mg Z Fz ρ st H) {k : Nat} {a : Addr} {c0 c : Cell} {o : HO} (e : ρ[k]? = some a) (e0 : st[k]? = some c0) (h0 : c0.live = true) (hl : c.live = true) (hc : CellOk K mg Fz ρ (upd H a o) a c) :
    Rel K mg Z Fz ρ (st.set k c) (upd H a o) := by
  have hf := r.apart k a c0 e e0 h0
  have hk : k < st.length := (List.getElem?_eq_some_iff.mp e0).1
  have diff : ∀ (j : Nat) (b : Addr), ρ[j]? = some b → j ≠ k → b ≠ a := fun j b ej hjk z => by
    subst z
    exact hjk (nodup_ix r.nd ej e)
  refine ⟨fun b u q => ?_, fun b u q => ?_, by simp [r.len], fun j b x e1 e2 => ?_, fun j b x e1 e2 e3 => ?_, r.nd⟩
  · obtain ⟨z1, z2, z3⟩ := r.zf b u q
    have hba : b ≠ a := fun z => z3 (by rw [z]; exact List.mem_of_getElem? e)
    exact ⟨by rw [upd_ne hba]; exact z1, z2, z3⟩
  · rw [upd_ne (fun z => by subst z; rw [hf] at q; cases q)]; exact r.fz _ _ q
  · by_cases hj : j = k
    · subst hj
      rw [List.getElem?_set_self hk] at e2
      rw [e] at e1; cases e1; cases e2
      exact hc
    · rw [List.getElem?_set_ne (fun z => hj z.symm)] at e2
      exact (r.cell j b x e1 e2).mono Ext.refl fun u q => by rw [upd_ne (diff j b e1 hj)]; exact q
  · by_cases hj : j = k
    · subst hj
      rw [e] at e1; cases e1
      exact hf
    · rw [List.getElem?_set_ne (fun z => hj z.symm)] at e2
      exact r.apart j b x e1 e2 e3
theorem Rel.freeze (r : Rel K mg Z Fz ρ st H) {k : Nat} {a : Addr} {xs : List PV} (e : ρ[k]? = some a) (e0 : st[k]? = some (.lst xs)) :
    ∃ vs, H a = some (.lst vs) ∧ RepL K mg Fz ρ xs vs ∧ xs.length ≤ sizeLine ∧ Rel K mg Z (upd Fz a (.lst vs)) ρ (st.set k (.frz xs)) H ∧ Ext Fz ρ (upd Fz a (.lst vs)) ρ := by
  obtain ⟨vs, h1, h2, h3⟩ := r.cell k a _ e e0
  have hf := r.apart k a _ e e0 rfl
  have hk : k < st.length := (List.getElem?_eq_some_iff.mp e0).1
  have ex : Ext Fz ρ (upd Fz a (.lst vs)) ρ := ⟨fun b u q => by rw [upd_ne (fun z => by subst z; rw [hf] at q; cases q)]; exact q, List.prefix_refl _⟩
  refine ⟨vs, h1, h3, h2, ⟨fun b u q => ?_, fun b u q => ?_, by simp [r.len], fun j b x e1 e2 => ?_, fun j b x e1 e2 e3 => ?_, r.nd⟩, ex⟩
  · obtain ⟨z1, z2, z3⟩ := r.zf b u q
    have hba : b ≠ a := fun z => z3 (by rw [z]; exact List.mem_of_getElem? e)
    exact ⟨z1, by rw [upd_ne hba]; exact z2, z3⟩
  · by_cases hb : b = a
    · subst hb; rw [upd_same] at q; cases q; exact h1
    · rw [upd_ne hb] at q; exact r.fz _ _ q
  · by_cases hj : j = k
    · subst hj
      rw [List.getElem?_set_self hk] at e2
      rw [e] at e1; cases e1; cases e2
      exact ⟨vs, upd_same, h2, h3.mono ex⟩
    · rw [List.getElem?_set_ne (fun z => hj z.symm)] at e2
      exact (r.cell j b x e1 e2).mono ex fun u q => q
  · by_cases hj : j = k
    · subst hj
      rw [List.getElem?_set_self hk] at e2
      cases e2; cases e3
    · rw [List.getElem?_set_ne (fun z => hj z.symm)] at e2
      have hba : b ≠ a := fun z => by
        subst z
        exact hj (nodup_ix r.nd e1 e)
      rw [upd_ne hba]; exact r.apart j b x e1 e2 e3
end
end
end Lq
end
section
set_option Elab.async false
set_option linter.all false
set_option maxRecDepth 10000
namespace Lq
open PySem PySem.Spec PyProof.Rows L2
section
variable (K : PySem.W.Frag) (mg : Str → Option Value)
def Out {α : Type} (Z : Hp) (E : XK) (Fz : Hp) (ρ : List Addr) (r : R α) (P : α → Store → Hp → List Addr → Hp → Prop) : Prop := match r with
  | .ok a st => ∀ Fz' ρ' H', Ext Fz ρ Fz' ρ' → Rel K mg Z Fz' ρ' st H' → P a st Fz' ρ' H'
  | .ex c st => ∀ Fz' ρ' H', Ext Fz ρ Fz' ρ' → Rel K mg Z Fz' ρ' st H' → ∃ C, mg c = some (.ref C) ∧ E (.ref C) none H'
  | .no => False
end
section
variable {K : PySem.W.Frag} {mg : Str → Option Value} {Z : Hp} {E : XK} {Fz : Hp} {ρ : List Addr}
theorem Out.mono {α : Type} {r : R α} {P P' : α → Store → Hp → List Addr → Hp → Prop} (h : Out K mg Z E Fz ρ r P)
    (f : ∀ a st Fz' ρ' H', r = .ok a st → Ext Fz ρ Fz' ρ' → Rel K mg Z Fz' ρ' st H' → P a st Fz' ρ' H' → P' a st Fz' ρ' H') : Out K mg Z E Fz ρ r P' := by
  cases r with
  | ok a st => exact fun F' r' H' e q => f a st F' r' H' rfl e q (h F' r' H' e q)
  | ex c st => exact h
  | no => exact h
theorem Out.on {α : Type} {r : R α} {P : α → Store → Hp → List Addr → Hp → Prop} {Fz' : Hp} {ρ' : List Addr} (h : Out K mg Z E Fz ρ r P) (e : Ext Fz ρ Fz' ρ') : Out K mg Z E Fz' ρ' r P := by
  cases r with
  | ok a st => exact fun F2 r2 H' e2 q => h F2 r2 H' (e.trans e2) q
  | ex c st => exact fun F2 r2 H' e2 q => h F2 r2 H' (e.trans e2) q
  | no => exact h
theorem Out.seq {α β : Type} {r : R α} {k : α → Store → R β} {P : β → Store → Hp → List Addr → Hp → Prop} (h : Out K mg Z E Fz ρ (r.bind k) P) :
    Out K mg Z E Fz ρ r (fun a st Fz' ρ' H' => Out K mg Z E Fz' ρ' (k a st) P) := by
  cases r with
  | ok a st => exact fun F' r' H' e q => Out.on (K := K) (mg := mg) h e
  | ex c st => exact h
  | no => exact h
theorem Out.here {α : Type} {a : α} {st : Store} {P : α → Store → Hp → List Addr → Hp → Prop} {H : Hp} (h : Out K mg Z E Fz ρ (.ok a st) P) (r : Rel K mg Z Fz ρ st H) : P a st Fz ρ H := h Fz ρ H Ext.refl r
end
section
variable (K : PySem.W.Frag) (mg : Str → Option Value) (E : XK)
def SE (t : TE) (f : XE) : Prop := ∀ Z Fz ρ env st σ H Q, Rel K mg Z Fz ρ st H → REnv K mg Fz ρ env σ →
  Out K mg Z E Fz ρ (f env st) (fun v _ Fz' ρ' H' => ∀ v', Rep K mg Fz' ρ' v v' → Q v' H') → t σ H Q
def STt (t : TT) (f : Ev → Store → R Bool) : Prop := ∀ Z Fz ρ env st σ H Q, Rel K mg Z Fz ρ st H → REnv K mg Fz ρ env σ →
  Out K mg Z E Fz ρ (f env st) (fun b _ _ _ H' => Q b H') → t σ H Q
def SA (t : TA) (f : XL) : Prop := ∀ Z Fz ρ env st σ H Q, Rel K mg Z Fz ρ st H → REnv K mg Fz ρ env σ →
  Out K mg Z E Fz ρ (f env st) (fun vs _ Fz' ρ' H' => ∀ vs', RepL K mg Fz' ρ' vs vs' → Q vs' H') → t σ H Q
def SF (t : TE) (f : XL) : Prop := ∀ Z Fz ρ env st σ H Q, Rel K mg Z Fz ρ st H → REnv K mg Fz ρ env σ →
  Out K mg Z E Fz ρ (f env st) (fun xs _ Fz' ρ' H' => ∀ p vs, H' p = none → xs.length ≤ sizeLine → RepL K mg Fz' ρ' xs vs → Q (.ref p) (upd H' p (.lst vs))) → t σ H Q
def FlP (D : Ends) (fl : Fl) (Fz : Hp) (ρ : List Addr) (H : Hp) : Prop := match fl with
  | .nx e => ∀ σ, REnv K mg Fz ρ e σ → D.nx σ H
  | .bk e => ∀ σ, REnv K mg Fz ρ e σ → D.bk σ H
  | .ct e => ∀ σ, REnv K mg Fz ρ e σ → D.ct σ H
  | .rt v => ∀ v', Rep K mg Fz ρ v v' → D.rt v' H
def SS (t : TS) (f : XS) : Prop := ∀ Z Fz ρ env st σ H D, Rel K mg Z Fz ρ st H → REnv K mg Fz ρ env σ →
  Out K mg Z E Fz ρ (f env st) (fun fl _ Fz' ρ' H' => FlP K mg D fl Fz' ρ' H') → t D σ H
end
def JE (X : Cx) (E : XK) (e : Expr) (f : XE) : Prop := ∃ t, PE X e t ∧ SE X.K X.mg E t f
def JT (X : Cx) (E : XK) (e : Expr) (f : Ev → Store → R Bool) : Prop := ∃ t, PT X e t ∧ STt X.K X.mg E t f
def JW (X : Cx) (E : XK) (e : Expr) (f : Ev → Store → R Bool) : Prop := ∃ t, PW X e t ∧ STt X.K X.mg E t f
def JA (X : Cx) (E : XK) (es : List Expr) (f : XL) : Prop := ∃ t, PA X es t ∧ SA X.K X.mg E t f
def JF (X : Cx) (E : XK) (e : Expr) (f : XL) : Prop := ∃ t, PE X e t ∧ SF X.K X.mg E t f
def JS (X : Cx) (E : XK) (st : Stmt) (f : XS) : Prop := ∃ t, PS X st t ∧ SS X.K X.mg E t f
def JSs (X : Cx) (E : XK) (st : List Stmt) (f : XS) : Prop := ∃ t, PSs X st t ∧ SS X.K X.mg E t f
def JOp (X : Cx) (f : Value → Value → Sem Value) (o : PV → PV → Store → Option PV) : Prop := ∃ r : R2, OpR X f r ∧
  ∀ Z Fz ρ st H x y px py pz Q, Rel X.K X.mg Z Fz ρ st H → Rep X.K X.mg Fz ρ px x → Rep X.K X.mg Fz ρ py y → o px py st = some pz →
    (∀ Fz' ρ' H' v', Ext Fz ρ Fz' ρ' → Rel X.K X.mg Z Fz' ρ' st H' → Rep X.K X.mg Fz' ρ' pz v' → Q v' H') → r x y H Q
def eVar (i : Nat) : XE := fun env st => match env[i]? with
  | some (some v) => .ok v st
  | _ => .no
def eC (v : PV) : XE := fun _ st => .ok v st
def eBin (o : PV → PV → Store → Option PV) (a b : XE) : XE := fun env st => (a env st).bind fun x s1 => (b env s1).bind fun y s2 => match o x y s2 with
  | some z => .ok z s2
  | none => .no
def eUn (o : PV → Option PV) (a : XE) : XE := fun env st => (a env st).bind fun x s1 => match o x with
  | some z => .ok z s1
  | none => .no
def aNil : XL := fun _ st => .ok [] st
def aCons (a : XE) (r : XL) : XL := fun env st => (a env st).bind fun x s1 => (r env s1).bind fun xs s2 => .ok (x :: xs) s2
def eTup (a : XL) : XE := fun env st => (a env st).bind fun xs s1 => if xs.length ≤ sizeLine then .ok (.tup xs) s1 else .no
def fDisp (a : XL) : XL := fun env st => (a env st).bind fun xs s1 => if xs.length ≤ sizeLine then .ok xs s1 else .no
def eFz (a : XL) : XE := fun env st => (a env st).bind fun xs s1 => .ok (.lst xs) s1
def eOw (a : XL) : XE := fun env st => (a env st).bind fun xs s1 => .ok (.own s1.length) (s1 ++ [.lst xs])
section
variable {X : Cx} {E : XK} {a b e : Expr} {es : List Expr} {pos : Pos} {fa fb : XE}
theorem je_var (i : Nat) {x : Str} (hN : X.N[i]? = some x := by rfl) (hv : Vis X.env.scope x := by first | exact .inl rfl | exact .inr (.inl rfl) | exact .inr (.inr rfl)) (hd : (x == ("__debug__" : Str)) = false := by decide) (hcd : (x == ("__classdict__" : Str)) = false := by decide) : JE X E (.Name x pos) (eVar i) := by
  refine ⟨tVar i, pe_var hN hv hd hcd, fun Z Fz ρ env st σ H Q r h o => ?_⟩
  unfold eVar at o
  split at o
  · rename_i v ev
    obtain ⟨v', e1, e2⟩ := h.2 i v ev
    exact ⟨v', e1, o.here r v' e2⟩
  · exact o.elim
theorem je_const {v : PV} {v' : V} (hp : PE X e (tC v')) (hr : ∀ Fz ρ, Rep X.K X.mg Fz ρ v v') : JE X E e (eC v) :=
  ⟨_, hp, fun Z Fz ρ env st σ H Q r h o => o.here r v' (hr Fz ρ)⟩
theorem je_int {i : Int} {j pos} : JE X E (.Constant (.int i) j pos) (eC (.int i)) := je_const pe_int fun _ _ => by rw [Rep]
theorem je_str {x : Str} {j pos} : JE X E (.Constant (.str x) j pos) (eC (.str x)) := je_const pe_str fun _ _ => by rw [Rep]
theorem je_bl {b : Bool} {j pos} : JE X E (.Constant (.bool b) j pos) (eC (.bl b)) := je_const pe_bl fun _ _ => by rw [Rep]
theorem je_non {j pos} : JE X E (.Constant .none j pos) (eC .non) := je_const pe_non fun _ _ => by rw [Rep]
theorem je_bin {op : Operator} {o} (h : JOp X (binaryOp op) o) (ha : JE X E a fa) (hb : JE X E b fb) : JE X E (.BinOp a op b pos) (eBin o fa fb) := by
  obtain ⟨r, hr, sr⟩ := h
  obtain ⟨ta, pa, sa⟩ := ha
  obtain ⟨tb, pb, sb⟩ := hb
  refine ⟨tOp r ta tb, pe_op hr pa pb, fun Z Fz ρ env st σ H Q rl h o => ?_⟩
  refine sa Z Fz ρ env st σ H _ rl h (o.seq.mono fun x s1 F1 r1 H1 _ ex1 rl1 o1 x' rx => ?_)
  refine sb Z F1 r1 env s1 σ H1 _ rl1 (h.mono ex1) (o1.seq.mono fun y s2 F2 r2 H2 _ ex2 rl2 o2 y' ry => ?_)
  split at o2
  · rename_i z ez
    exact sr Z F2 r2 s2 H2 x' y' x y z Q rl2 (rx.mono ex2) ry ez fun F3 r3 H3 v' ex3 rl3 rz => o2 F3 r3 H3 ex3 rl3 v' rz
  · exact o2.elim
theorem sbin {r : R2} {ta tb : TE} {o} (sr : ∀ Z Fz ρ st H x y px py pz Q, Rel X.K X.mg Z Fz ρ st H → Rep X.K X.mg Fz ρ px x → Rep X.K X.mg Fz ρ py y → o px py st = some pz →
    (∀ Fz' ρ' H' v', Ext Fz ρ Fz' ρ' → Rel X.K X.mg Z Fz' ρ' st H' → Rep X.K X.mg Fz' ρ' pz v' → Q v' H') → r x y H Q) (sa : SE X.K X.mg E ta fa) (sb : SE X.K X.mg E tb fb) : SE X.K X.mg E (tOp r ta tb) (eBin o fa fb) := fun Z Fz ρ env st σ H Q rl h o => by
  refine sa Z Fz ρ env st σ H _ rl h (o.seq.mono fun x s1 F1 r1 H1 _ ex1 rl1 o1 x' rx => ?_)
  refine sb Z F1 r1 env s1 σ H1 _ rl1 (h.mono ex1) (o1.seq.mono fun y s2 F2 r2 H2 _ ex2 rl2 o2 y' ry => ?_)
  split at o2
  · rename_i z ez
    exact sr Z F2 r2 s2 H2 x' y' x y z Q rl2 (rx.mono ex2) ry ez fun F3 r3 H3 v' ex3 rl3 rz => o2 F3 r3 H3 ex3 rl3 v' rz
  · exact o2.elim
theorem je_cmp {op : CmpOp} {o} (h : JOp X (compareOp op) o) (ha : JE X E a fa) (hb : JE X E b fb) (hm : behindInMarks op b = false := by rfl) : JE X E (.Compare a [op] [b] pos) (eBin o fa fb) := by
  obtain ⟨r, hr, sr⟩ := h
  obtain ⟨ta, pa, sa⟩ := ha
  obtain ⟨tb, pb, sb⟩ := hb
  exact ⟨tOp r ta tb, pe_cmpR hr pa pb hm, sbin sr sa sb⟩
def toB (r : R PV) : R Bool := r.bind fun v s => match v with
  | .bl b => .ok b s
  | _ => .no
def tE (f : XE) : Ev → Store → R Bool := fun env st => toB (f env st)
def tAndF (a b : Ev → Store → R Bool) : Ev → Store → R Bool := fun env st => (a env st).bind fun c s => if c = true then b env s else .ok false s
def tOrF (a b : Ev → Store → R Bool) : Ev → Store → R Bool := fun env st => (a env st).bind fun c s => if c = true then .ok true s else b env s
def tNotF (a : Ev → Store → R Bool) : Ev → Store → R Bool := fun env st => (a env st).bind fun c s => .ok (!c) s
def eB (t : Ev → Store → R Bool) : XE := fun env st => (t env st).bind fun c s => .ok (.bl c) s
def eIf (c : Ev → Store → R Bool) (a b : XE) : XE := fun env st => (c env st).bind fun k s => if k = true then a env s else b env s
theorem st_tE {t : TE} {f : XE} (h : SE X.K X.mg E t f) : STt X.K X.mg E (fun σ H Q => t σ H fun x H1 => ∃ c, x = .bl c ∧ Q c H1) (tE f) := fun Z Fz ρ env st σ H Q rl hh o => by
  refine h Z Fz ρ env st σ H _ rl hh (o.seq.mono fun x s1 F1 r1 H1 _ ex1 rl1 o1 x' rx => ?_)
  split at o1
  · rw [Rep] at rx; exact ⟨_, rx, o1.here rl1⟩
  · exact o1.elim
theorem jt_cmp {op : CmpOp} {o} (h : JOp X (compareOp op) o) (ha : JE X E a fa) (hb : JE X E b fb) (hm : behindInMarks op b = false := by rfl) : JT X E (.Compare a [op] [b] pos) (tE (eBin o fa fb)) := by
  obtain ⟨r, hr, sr⟩ := h
  obtain ⟨ta, pa, sa⟩ := ha
  obtain ⟨tb, pb, sb⟩ := hb
  exact ⟨_, pt_cmpR hr pa pb hm, st_tE (sbin sr sa sb)⟩
theorem jt_val (h : JE X E e fa) (he : ∀ whole, isTrue e X.env whole = (do let v ← whole; standAt e.pos; holding [v] (truthy v)) := by intro _; rfl) : JT X E e (tE fa) := by
  obtain ⟨t, p, s⟩ := h
  exact ⟨_, pt_val p he, st_tE s⟩
theorem jt_not {f} (h : JT X E a f) : JT X E (.UnaryOp .Not a pos) (tNotF f) := by
  obtain ⟨t, p, s⟩ := h
  exact ⟨_, pt_not p, fun Z Fz ρ env st σ H Q rl hh o => s Z Fz ρ env st σ H _ rl hh (o.seq.mono fun c s1 F1 r1 H1 _ ex1 rl1 o1 => o1.here rl1)⟩
theorem st_and {ta tb : TT} {f g} (ha : STt X.K X.mg E ta f) (hb : STt X.K X.mg E tb g) : STt X.K X.mg E (tAnd ta tb) (tAndF f g) := fun Z Fz ρ env st σ H Q rl hh o => by
  refine ha Z Fz ρ env st σ H _ rl hh (o.seq.mono fun c s1 F1 r1 H1 _ ex1 rl1 o1 => ?_)
  cases c with
  | true => exact hb Z F1 r1 env s1 σ H1 _ rl1 (hh.mono ex1) o1
  | false => exact o1.here rl1
theorem st_or {ta tb : TT} {f g} (ha : STt X.K X.mg E ta f) (hb : STt X.K X.mg E tb g) : STt X.K X.mg E (tOr ta tb) (tOrF f g) := fun Z Fz ρ env st σ H Q rl hh o => by
  refine ha Z Fz ρ env st σ H _ rl hh (o.seq.mono fun c s1 F1 r1 H1 _ ex1 rl1 o1 => ?_)
  cases c with
  | false => exact hb Z F1 r1 env s1 σ H1 _ rl1 (hh.mono ex1) o1
  | true => exact o1.here rl1
theorem jw_and1 {f} (h : JT X E a f) : JW X E (.BoolOp .And [a] pos) f := let ⟨t, p, s⟩ := h; ⟨t, pw_and1 p, s⟩
theorem jw_or1 {f} (h : JT X E a f) : JW X E (.BoolOp .Or [a] pos) f := let ⟨t, p, s⟩ := h; ⟨t, pw_or1 p, s⟩
theorem jw_and {rest : List Expr} {f g} (h : JT X E a f) (h' : JW X E (.BoolOp .And (b :: rest) pos) g) : JW X E (.BoolOp .And (a :: b :: rest) pos) (tAndF f g) := by
  obtain ⟨t, p, s⟩ := h
  obtain ⟨t', p', s'⟩ := h'
  exact ⟨_, pw_and p p', st_and s s'⟩
theorem jw_or {rest : List Expr} {f g} (h : JT X E a f) (h' : JW X E (.BoolOp .Or (b :: rest) pos) g) : JW X E (.BoolOp .Or (a :: b :: rest) pos) (tOrF f g) := by
  obtain ⟨t, p, s⟩ := h
  obtain ⟨t', p', s'⟩ := h'
  exact ⟨_, pw_or p p', st_or s s'⟩
theorem JW.jt {f} (h : JW X E e f) : JT X E e f := let ⟨t, p, s⟩ := h; ⟨t, p.pt, s⟩
theorem je_one {op : BoolOp} {f} (h : JE X E a f) : JE X E (.BoolOp op [a] pos) f := let ⟨t, p, s⟩ := h; ⟨t, pe_one p, s⟩
def eAnd (a b : XE) : XE := fun env st => (a env st).bind fun v s => match v with
  | .bl true => b env s
  | .bl false => .ok (.bl false) s
  | _ => .no
def eOr (a b : XE) : XE := fun env st => (a env st).bind fun v s => match v with
  | .bl true => .ok (.bl true) s
  | .bl false => b env s
  | _ => .no
def eNot (a : XE) : XE := fun env st => (a env st).bind fun v s => match v with
  | .bl b => .ok (.bl (!b)) s
  | _ => .no
theorem je_and {rest : List Expr} (h : JE X E a fa) (h' : JE X E (.BoolOp .And (b :: rest) pos) fb) : JE X E (.BoolOp .And (a :: b :: rest) pos) (eAnd fa fb) := by
  obtain ⟨t, p, s⟩ := h
  obtain ⟨t', p', s'⟩ := h'
  refine ⟨_, pe_and p p', fun Z Fz ρ env st σ H Q rl hh o => ?_⟩
  refine s Z Fz ρ env st σ H _ rl hh (o.seq.mono fun c s1 F1 r1 H1 _ ex1 rl1 o1 x' rx => ?_)
  split at o1
  · rw [Rep] at rx; exact ⟨true, rx, s' Z F1 r1 env s1 σ H1 _ rl1 (hh.mono ex1) o1⟩
  · rw [Rep] at rx; exact ⟨false, rx, o1.here rl1 _ (by rw [Rep])⟩
  · exact o1.elim
theorem je_or {rest : List Expr} (h : JE X E a fa) (h' : JE X E (.BoolOp .Or (b :: rest) pos) fb) : JE X E (.BoolOp .Or (a :: b :: rest) pos) (eOr fa fb) := by
  obtain ⟨t, p, s⟩ := h
  obtain ⟨t', p', s'⟩ := h'
  refine ⟨_, pe_or p p', fun Z Fz ρ env st σ H Q rl hh o => ?_⟩
  refine s Z Fz ρ env st σ H _ rl hh (o.seq.mono fun c s1 F1 r1 H1 _ ex1 rl1 o1 x' rx => ?_)
  split at o1
  · rw [Rep] at rx; exact ⟨true, rx, o1.here rl1 _ (by rw [Rep])⟩
  · rw [Rep] at rx; exact ⟨false, rx, s' Z F1 r1 env s1 σ H1 _ rl1 (hh.mono ex1) o1⟩
  · exact o1.elim
theorem je_not (h : JE X E a fa) : JE X E (.UnaryOp .Not a pos) (eNot fa) := by
  obtain ⟨t, p, s⟩ := h
  refine ⟨_, pe_not p, fun Z Fz ρ env st σ H Q rl hh o => ?_⟩
  refine s Z Fz ρ env st σ H _ rl hh (o.seq.mono fun c s1 F1 r1 H1 _ ex1 rl1 o1 x' rx => ?_)
  split at o1
  · rw [Rep] at rx; exact ⟨_, rx, o1.here rl1 _ (by rw [Rep])⟩
  · exact o1.elim
theorem je_ifExp {c : Expr} {fc} (hc : JT X E c fc) (ha : JE X E a fa) (hb : JE X E b fb) : JE X E (.IfExp c a b pos) (eIf fc fa fb) := by
  obtain ⟨t, p, s⟩ := hc
  obtain ⟨ta, pa, sa⟩ := ha
  obtain ⟨tb, pb, sb⟩ := hb
  refine ⟨_, pe_ifExp p pa pb, fun Z Fz ρ env st σ H Q rl hh o => ?_⟩
  refine s Z Fz ρ env st σ H _ rl hh (o.seq.mono fun c s1 F1 r1 H1 _ ex1 rl1 o1 => ?_)
  cases c with
  | true => exact sa Z F1 r1 env s1 σ H1 _ rl1 (hh.mono ex1) o1
  | false => exact sb Z F1 r1 env s1 σ H1 _ rl1 (hh.mono ex1) o1
def eChain (o o' : PV → PV → Store → Option PV) (a b c : XE) : XE := fun env st => (a env st).bind fun x s1 => (b env s1).bind fun y s2 => match o x y s2 with
  | some (.bl true) => (c env s2).bind fun z s3 => (match o' y z s3 with
    | some w => .ok w s3
    | none => .no)
  | some (.bl false) => .ok (.bl false) s2
  | _ => .no
theorem schain {r r' : R2} {ta tb tc : TE} {fc : XE} {o o'} (sr : ∀ Z Fz ρ st H x y px py pz Q, Rel X.K X.mg Z Fz ρ st H → Rep X.K X.mg Fz ρ px x → Rep X.K X.mg Fz ρ py y → o px py st = some pz →
    (∀ Fz' ρ' H' v', Ext Fz ρ Fz' ρ' → Rel X.K X.mg Z Fz' ρ' st H' → Rep X.K X.mg Fz' ρ' pz v' → Q v' H') → r x y H Q)
    (sr' : ∀ Z Fz ρ st H x y px py pz Q, Rel X.K X.mg Z Fz ρ st H → Rep X.K X.mg Fz ρ px x → Rep X.K X.mg Fz ρ py y → o' px py st = some pz →
    (∀ Fz' ρ' H' v', Ext Fz ρ Fz' ρ' → Rel X.K X.mg Z Fz' ρ' st H' → Rep X.K X.mg Fz' ρ' pz v' → Q v' H') → r' x y H Q)
    (sa : SE X.K X.mg E ta fa) (sb : SE X.K X.mg E tb fb) (sc : SE X.K X.mg E tc fc) : SE X.K X.mg E (tChain r r' ta tb tc) (eChain o o' fa fb fc) := fun Z Fz ρ env st σ H Q rl h o => by
  refine sa Z Fz ρ env st σ H _ rl h (o.seq.mono fun x s1 F1 r1 H1 _ ex1 rl1 o1 x' rx => ?_)
  refine sb Z F1 r1 env s1 σ H1 _ rl1 (h.mono ex1) (o1.seq.mono fun y s2 F2 r2 H2 _ ex2 rl2 o2 y' ry => ?_)
  split at o2
  · rename_i ez
    refine sr Z F2 r2 s2 H2 x' y' x y _ _ rl2 (rx.mono ex2) ry ez fun F3 r3 H3 v' ex3 rl3 rz => ?_
    rw [Rep] at rz
    refine ⟨true, rz, ?_⟩
    rw [if_pos rfl]
    refine sc Z F3 r3 env s2 σ H3 _ rl3 ((h.mono ex1).mono (ex2.trans ex3)) ((o2.seq.on ex3).mono fun z s3 F4 r4 H4 _ ex4 rl4 o3 z' rz' => ?_)
    split at o3
    · rename_i w ew
      exact sr' Z F4 r4 s3 H4 y' z' y z w Q rl4 (ry.mono (ex3.trans ex4)) rz' ew fun F5 r5 H5 v'' ex5 rl5 rw' => o3 F5 r5 H5 ex5 rl5 v'' rw'
    · exact o3.elim
  · rename_i ez
    refine sr Z F2 r2 s2 H2 x' y' x y _ _ rl2 (rx.mono ex2) ry ez fun F3 r3 H3 v' ex3 rl3 rz => ?_
    rw [Rep] at rz
    refine ⟨false, rz, ?_⟩
    rw [if_neg Bool.false_ne_true]
    exact o2 F3 r3 H3 ex3 rl3 _ (by rw [Rep])
  · exact o2.elim
theorem je_chain {op op' : CmpOp} {o o'} {c : Expr} {fc : XE} (h : JOp X (compareOp op) o) (h' : JOp X (compareOp op') o') (ha : JE X E a fa) (hb : JE X E b fb) (hc : JE X E c fc) (hm : lastMarks [op, op'] [b, c] = false := by first | rfl | with_unfolding_all rfl) :
    JE X E (.Compare a [op, op'] [b, c] pos) (eChain o o' fa fb fc) := by
  obtain ⟨r, hr, sr⟩ := h
  obtain ⟨r', hr', sr'⟩ := h'
  obtain ⟨ta, pa, sa⟩ := ha
  obtain ⟨tb, pb, sb⟩ := hb
  obtain ⟨tc, pc, sc⟩ := hc
  exact ⟨tChain r r' ta tb tc, pe_chain hr hr' pa pb pc (hm := hm), schain sr sr' sa sb sc⟩
theorem ja_nil : JA X E [] aNil := ⟨_, pa_nil, fun Z Fz ρ env st σ H Q rl hh o => o.here rl _ RepL.nil⟩
theorem ja_cons {fr : XL} (h : JE X E e fa) (h' : JA X E es fr) (hs : starEach (e :: es) X.env = (false, eval e X.env) :: starEach es X.env := by rfl) : JA X E (e :: es) (aCons fa fr) := by
  obtain ⟨t, p, s⟩ := h
  obtain ⟨t', p', s'⟩ := h'
  refine ⟨_, pa_cons p p' hs, fun Z Fz ρ env st σ H Q rl hh o => ?_⟩
  refine s Z Fz ρ env st σ H _ rl hh (o.seq.mono fun x s1 F1 r1 H1 _ ex1 rl1 o1 x' rx => ?_)
  refine s' Z F1 r1 env s1 σ H1 _ rl1 (hh.mono ex1) (o1.seq.mono fun xs s2 F2 r2 H2 _ ex2 rl2 o2 xs' rxs => ?_)
  exact o2.here rl2 _ (RepL.cons (rx.mono ex2) rxs)
theorem je_tup {f : XL} {x1} (h : JA X E es f) : JE X E (.Tuple es x1 pos) (eTup f) := by
  obtain ⟨t, p, s⟩ := h
  refine ⟨_, pe_tup p, fun Z Fz ρ env st σ H Q rl hh o => ?_⟩
  refine s Z Fz ρ env st σ H _ rl hh (o.seq.mono fun xs s1 F1 r1 H1 _ ex1 rl1 o1 xs' rx => ?_)
  split at o1
  · rename_i hl
    refine ⟨by rw [← rx.len]; exact hl, fun p hp => ?_⟩
    obtain ⟨rl2, ex2⟩ := rl1.frozen hp (.tup xs')
    exact o1 _ _ _ ex2 rl2 _ (by rw [Rep]; exact ⟨p, xs', rfl, SqT.of upd_same, hl, rx.mono ex2⟩)
  · exact o1.elim
theorem jf_lst {f : XL} (h : JA X E es f) : JF X E (.List es pos) (fDisp f) := by
  obtain ⟨t, p, s⟩ := h
  refine ⟨_, pe_lst p, fun Z Fz ρ env st σ H Q rl hh o => ?_⟩
  refine s Z Fz ρ env st σ H _ rl hh (o.seq.mono fun xs s1 F1 r1 H1 _ ex1 rl1 o1 xs' rx => ?_)
  split at o1
  · rename_i hl
    exact ⟨by rw [← rx.len]; exact hl, fun p hp => o1.here rl1 p xs' hp hl rx⟩
  · exact o1.elim
theorem je_fz {f : XL} (h : JF X E e f) : JE X E e (eFz f) := by
  obtain ⟨t, p, s⟩ := h
  refine ⟨t, p, fun Z Fz ρ env st σ H Q rl hh o => s Z Fz ρ env st σ H Q rl hh (o.seq.mono fun xs s1 F1 r1 H1 _ ex1 rl1 o1 p vs hp hl rv => ?_)⟩
  obtain ⟨rl2, ex2⟩ := rl1.frozen hp (.lst vs)
  exact o1 _ _ _ ex2 rl2 _ (by rw [Rep]; exact ⟨p, vs, rfl, upd_same, hl, rv.mono ex2⟩)
theorem je_ow {f : XL} (h : JF X E e f) : JE X E e (eOw f) := by
  obtain ⟨t, p, s⟩ := h
  refine ⟨t, p, fun Z Fz ρ env st σ H Q rl hh o => s Z Fz ρ env st σ H Q rl hh (o.seq.mono fun xs s1 F1 r1 H1 _ ex1 rl1 o1 p vs hp hl rv => ?_)⟩
  have ex0 : Ext F1 r1 F1 (r1 ++ [p]) := ⟨fun _ _ h => h, List.prefix_append _ _⟩
  obtain ⟨rl2, ex2⟩ := rl1.owned hp (o := .lst vs) (c := .lst xs) rfl ⟨vs, upd_same, hl, rv.mono ex0⟩
  exact o1 _ _ _ ex2 rl2 _ (by rw [Rep]; exact ⟨p, by rw [← rl1.len]; simp, rfl⟩)
end
end Lq
end
section
set_option Elab.async false
set_option linter.all false
set_option maxRecDepth 10000
namespace Lq
open PySem PySem.Spec PyProof.Rows L2
def asL (st : Store) : PV → Option (List PV)
  | .lst xs => some xs
  | .scr ns => some (ns.map PV.int)
  | .own k => (match st[k]? with
    | some (.lst xs) => some xs
    | some (.frz xs) => some xs
    | _ => none)
  | _ => none
def asM (st : Store) : PV → Option (List PV)
  | .lst xs => some xs
  | .own k => (match st[k]? with
    | some (.lst xs) => some xs
    | some (.frz xs) => some xs
    | _ => none)
  | _ => none
section
variable {K : PySem.W.Frag} {mg : Str → Option Value} {Z Fz : Hp} {ρ : List Addr} {st : Store} {H : Hp} {p : PV} {v : V} {xs : List PV}
theorem asM_ok (r : Rel K mg Z Fz ρ st H) (h : Rep K mg Fz ρ p v) (e : asM st p = some xs) : ∃ a vs, v = .ref a ∧ H a = some (.lst vs) ∧ xs.length ≤ sizeLine ∧ RepL K mg Fz ρ xs vs := by
  unfold asM at e
  split at e
  · cases e
    rw [Rep] at h
    obtain ⟨a, vs, h1, h2, h3, h4⟩ := h
    exact ⟨a, vs, h1, r.fz _ _ h2, h3, h4⟩
  · rename_i k
    rw [Rep] at h
    obtain ⟨a, h1, h2⟩ := h
    split at e
    · rename_i ys ek
      cases e
      obtain ⟨vs, q1, q2, q3⟩ := r.cell k a _ h1 ek
      exact ⟨a, vs, h2, q1, q2, q3⟩
    · rename_i ys ek
      cases e
      obtain ⟨vs, q1, q2, q3⟩ := r.cell k a _ h1 ek
      exact ⟨a, vs, h2, r.fz _ _ q1, q2, q3⟩
    · cases e
  · cases e
theorem asL_ok (r : Rel K mg Z Fz ρ st H) (h : Rep K mg Fz ρ p v) (e : asL st p = some xs) : ∃ a vs, v = .ref a ∧ SqL K H a vs ∧ xs.length ≤ sizeLine ∧ RepL K mg Fz ρ xs vs := by
  cases p with
  | scr ns =>
    cases e
    rw [Rep] at h
    obtain ⟨a, h1, h2, h3⟩ := h
    exact ⟨a, _, h1, sqL_mono r.fz h2, by simpa using h3, RepL.ints ns⟩
  | lst ys =>
    obtain ⟨a, vs, h1, h2, h3, h4⟩ := asM_ok r h (show asM st (.lst ys) = some xs from e)
    exact ⟨a, vs, h1, SqL.of h2, h3, h4⟩
  | own k =>
    obtain ⟨a, vs, h1, h2, h3, h4⟩ := asM_ok r h (show asM st (.own k) = some xs from e)
    exact ⟨a, vs, h1, SqL.of h2, h3, h4⟩
  | _ => cases e
theorem tup_ok (r : Rel K mg Z Fz ρ st H) (h : Rep K mg Fz ρ (.tup xs) v) : ∃ a vs, v = .ref a ∧ SqT K H a vs ∧ xs.length ≤ sizeLine ∧ RepL K mg Fz ρ xs vs := by
  rw [Rep] at h
  obtain ⟨a, vs, h1, h2, h3, h4⟩ := h
  exact ⟨a, vs, h1, sqT_mono r.fz h2, h3, h4⟩
end
def oOr (o o' : PV → PV → Store → Option PV) : PV → PV → Store → Option PV := fun x y st => match o x y st with
  | some z => some z
  | none => o' x y st
section
variable {X : Cx}
theorem JOp.or {f o o'} (h : JOp X f o) (h' : JOp X f o') : JOp X f (oOr o o') := by
  obtain ⟨r, hr, sr⟩ := h
  obtain ⟨r', hr', sr'⟩ := h'
  refine ⟨_, hr.or hr', fun Z Fz ρ st H x y px py pz Q rl rx ry e q => ?_⟩
  unfold oOr at e
  split at e
  · rename_i z ez
    cases e
    exact .inl (sr Z Fz ρ st H x y px py _ Q rl rx ry ez q)
  · exact .inr (sr' Z Fz ρ st H x y px py _ Q rl rx ry e q)
def oI (g : Int → Int → Option PV) : PV → PV → Store → Option PV
  | .int i, .int j, _ => g i j
  | _, _, _ => none
theorem jo_I {f : Value → Value → Sem Value} {C : Int → Int → Prop} {g : Int → Int → V} {g' : Int → Int → Option PV} (h : OpR X f (rI C g))
    (hg : ∀ i j z, g' i j = some z → C i j ∧ ∀ Fz ρ, Rep X.K X.mg Fz ρ z (g i j)) : JOp X f (oI g') := by
  refine ⟨_, h, fun Z Fz ρ st H x y px py pz Q rl rx ry e q => ?_⟩
  unfold oI at e
  split at e
  · rename_i i j
    rw [Rep] at rx ry
    obtain ⟨c, rz⟩ := hg i j pz e
    exact ⟨i, j, rx, ry, c, q Fz ρ H _ Ext.refl rl (rz Fz ρ)⟩
  · cases e
theorem jo_I0 {f : Value → Value → Sem Value} {g : Int → Int → V} {g' : Int → Int → PV} (h : OpR X f (rI0 g))
    (hg : ∀ i j, ∀ Fz ρ, Rep X.K X.mg Fz ρ (g' i j) (g i j)) : JOp X f (oI fun i j => some (g' i j)) := by
  refine ⟨_, h, fun Z Fz ρ st H x y px py pz Q rl rx ry e q => ?_⟩
  unfold oI at e
  split at e
  · rename_i i j
    cases e
    rw [Rep] at rx ry
    exact ⟨i, j, rx, ry, q Fz ρ H _ Ext.refl rl (hg i j Fz ρ)⟩
  · cases e
def oAddI := oI fun i j => some (.int (i + j))
def oSub := oI fun i j => some (.int (i - j))
def mulOk (i j : Int) : Bool := (decide (-(2 ^ 64) < i) && decide (i < 2 ^ 64)) || ((decide (-(2 ^ 64) < j) && decide (j < 2 ^ 64)) || decide (i.natAbs.log2 + j.natAbs.log2 < 1000000))
def oMulI := oI fun i j => if mulOk i j = true then some (.int (i * j)) else none
def oDiv := oI fun i j => if 0 < j ∧ j.natAbs.log2 < 9000 then some (.int (i / j)) else none
def oMod := oI fun i j => if 0 < j then some (.int (i % j)) else none
def oPow := oI fun i j => if 0 ≤ j ∧ j ≤ 1000000 ∧ i.natAbs < 2 ^ 64 then some (.int (i ^ j.toNat)) else none
def oLtI := oI fun i j => some (.bl (decide (i < j)))
def oLeI := oI fun i j => some (.bl (decide (i ≤ j)))
def oGtI := oI fun i j => some (.bl (decide (j < i)))
def oGeI := oI fun i j => some (.bl (decide (j ≤ i)))
theorem jo_addI : JOp X (binaryOp .Add) oAddI := jo_I0 op_add fun _ _ _ _ => by rw [Rep]
theorem jo_sub : JOp X (binaryOp .Sub) oSub := jo_I0 op_sub fun _ _ _ _ => by rw [Rep]
theorem mulOk_or : OpR X (binaryOp .Mult) (rI (fun i j => mulOk i j = true) fun i j => .int (i * j)) := fun pins s σ H x y v u Q I rx ry h => by
  obtain ⟨i, j, rfl, rfl, c, q⟩ := h
  unfold mulOk at c
  simp only [Bool.or_eq_true, Bool.and_eq_true, decide_eq_true_eq] at c
  rcases c with c | c | c
  · exact op_mul pins s σ H _ _ v u Q I rx ry ⟨i, j, rfl, rfl, .inl c, q⟩
  · exact op_mul pins s σ H _ _ v u Q I rx ry ⟨i, j, rfl, rfl, .inr c, q⟩
  · exact op_mulW pins s σ H _ _ v u Q I rx ry ⟨i, j, rfl, rfl, c, q⟩
theorem jo_mulI : JOp X (binaryOp .Mult) oMulI := jo_I mulOk_or fun i j z e => by
  split at e
  · rename_i c; cases e; exact ⟨c, fun _ _ => by rw [Rep]⟩
  · cases e
theorem jo_div : JOp X (binaryOp .FloorDiv) oDiv := jo_I op_fdivW fun i j z e => by
  split at e
  · rename_i c; cases e; exact ⟨c, fun _ _ => by rw [Rep]⟩
  · cases e
theorem jo_mod : JOp X (binaryOp .Mod) oMod := jo_I op_mod fun i j z e => by
  split at e
  · rename_i c; cases e; exact ⟨c, fun _ _ => by rw [Rep]⟩
  · cases e
theorem jo_pow : JOp X (binaryOp .Pow) oPow := jo_I op_pow fun i j z e => by
  split at e
  · rename_i c; cases e; exact ⟨c, fun _ _ => by rw [Rep]⟩
  · cases e
theorem jo_ltI : JOp X (compareOp .Lt) oLtI := jo_I0 op_lt fun _ _ _ _ => by rw [Rep]
theorem jo_leI : JOp X (compareOp .LtE) oLeI := jo_I0 op_le fun _ _ _ _ => by rw [Rep]
theorem jo_gtI : JOp X (compareOp .Gt) oGtI := jo_I0 op_gt fun _ _ _ _ => by rw [Rep]
theorem jo_geI : JOp X (compareOp .GtE) oGeI := jo_I0 op_ge fun _ _ _ _ => by rw [Rep]
def oAddS : PV → PV → Store → Option PV
  | .str a, .str b, _ => if a.length + b.length ≤ sizeLine then some (.str (a ++ b)) else none
  | _, _, _ => none
theorem jo_addS : JOp X (binaryOp .Add) oAddS := by
  refine ⟨_, op_add_str, fun Z Fz ρ st H x y px py pz Q rl rx ry e q => ?_⟩
  unfold oAddS at e
  split at e
  · split at e
    · rename_i c
      cases e
      rw [Rep] at rx ry
      exact ⟨_, _, rx, ry, c, q Fz ρ H _ Ext.refl rl (by rw [Rep])⟩
    · cases e
  · cases e
def oAddT : PV → PV → Store → Option PV
  | .tup xs, .tup ys, _ => if xs.length + ys.length ≤ sizeLine then some (.tup (xs ++ ys)) else none
  | _, _, _ => none
theorem jo_addT : JOp X (binaryOp .Add) oAddT := by
  refine ⟨_, op_catA, fun Z Fz ρ st H x y px py pz Q rl rx ry e q => ?_⟩
  unfold oAddT at e
  split at e
  · rename_i xs ys
    split at e
    · rename_i c
      cases e
      obtain ⟨a, vs, rfl, sa, la, ra⟩ := tup_ok rl rx
      obtain ⟨b, ws, rfl, sb, lb, rb⟩ := tup_ok rl ry
      refine ⟨a, b, vs, ws, rfl, rfl, sa, sb, by rw [← ra.len, ← rb.len]; exact c, fun z => ?_, fun z1 z2 => ?_, fun z1 z2 p hp => ?_⟩
      · have : xs = [] := List.length_eq_zero_iff.mp (by rw [ra.len, z]; rfl)
        subst this
        exact q Fz ρ H _ Ext.refl rl ry
      · have : ys = [] := List.length_eq_zero_iff.mp (by rw [rb.len, z2]; rfl)
        subst this
        rw [List.append_nil] at q
        exact q Fz ρ H _ Ext.refl rl rx
      · obtain ⟨rl2, ex2⟩ := rl.frozen hp (.tup (vs ++ ws))
        exact q _ _ _ _ ex2 rl2 (by rw [Rep]; exact ⟨p, _, rfl, SqT.of upd_same, by simpa using c, (ra.app rb).mono ex2⟩)
    · cases e
  · cases e
def oAddL : PV → PV → Store → Option PV := fun x y st => match asM st x, asM st y with
  | some xs, some ys => if xs.length + ys.length ≤ sizeLine then some (.lst (xs ++ ys)) else none
  | _, _ => none
theorem jo_addL : JOp X (binaryOp .Add) oAddL := by
  refine ⟨_, op_cat, fun Z Fz ρ st H x y px py pz Q rl rx ry e q => ?_⟩
  unfold oAddL at e
  split at e
  · rename_i xs ys ex ey
    split at e
    · rename_i c
      cases e
      obtain ⟨a, vs, rfl, sa, la, ra⟩ := asM_ok rl rx ex
      obtain ⟨b, ws, rfl, sb, lb, rb⟩ := asM_ok rl ry ey
      refine ⟨a, b, vs, ws, rfl, rfl, sa, sb, by rw [← ra.len, ← rb.len]; exact c, fun p hp => ?_⟩
      obtain ⟨rl2, ex2⟩ := rl.frozen hp (.lst (vs ++ ws))
      exact q _ _ _ _ ex2 rl2 (by rw [Rep]; exact ⟨p, _, rfl, upd_same, by simpa using c, (ra.app rb).mono ex2⟩)
    · cases e
  · cases e
def oAdd := oOr oAddI (oOr oAddT (oOr oAddS oAddL))
theorem jo_add : JOp X (binaryOp .Add) oAdd := jo_addI.or (jo_addT.or (jo_addS.or jo_addL))
def oMulL : PV → PV → Store → Option PV := fun x y st => match asM st x, y with
  | some xs, .int k => if -(2 ^ 63) ≤ k ∧ k < 2 ^ 63 ∧ xs.length * k.toNat ≤ sizeLine then some (.lst (List.replicate k.toNat xs).flatten) else none
  | _, _ => none
theorem flat_len {α : Type} (xs : List α) : ∀ n : Nat, (List.replicate n xs).flatten.length = xs.length * n
  | 0 => by simp
  | n + 1 => by rw [List.replicate_succ, List.flatten_cons, List.length_append, flat_len xs n, Nat.mul_succ]; omega
theorem jo_mulL : JOp X (binaryOp .Mult) oMulL := by
  refine ⟨_, op_rep, fun Z Fz ρ st H x y px py pz Q rl rx ry e q => ?_⟩
  unfold oMulL at e
  split at e
  · rename_i xs k ex
    split at e
    · rename_i c
      cases e
      obtain ⟨a, vs, rfl, sa, la, ra⟩ := asM_ok rl rx ex
      rw [Rep] at ry
      refine ⟨a, k, vs, rfl, ry, sa, c.1, c.2.1, by rw [← ra.len]; exact c.2.2, fun p hp => ?_⟩
      obtain ⟨rl2, ex2⟩ := rl.frozen hp (.lst (List.replicate k.toNat vs).flatten)
      exact q _ _ _ _ ex2 rl2 (by rw [Rep]; exact ⟨p, _, rfl, upd_same, by rw [flat_len]; exact c.2.2, (ra.flat _).mono ex2⟩)
    · cases e
  · cases e
def oMulT : PV → PV → Store → Option PV
  | .tup xs, .int k, _ => if xs ≠ [] ∧ 2 ≤ k ∧ k ≤ 1000 ∧ xs.length ≤ 1000 then some (.tup (List.replicate k.toNat xs).flatten) else none
  | _, _, _ => none
theorem jo_mulT : JOp X (binaryOp .Mult) oMulT := by
  refine ⟨_, op_repT, fun Z Fz ρ st H x y px py pz Q rl rx ry e q => ?_⟩
  unfold oMulT at e
  split at e
  · rename_i xs k
    split at e
    · rename_i c
      cases e
      obtain ⟨a, vs, rfl, sa, la, ra⟩ := tup_ok rl rx
      rw [Rep] at ry
      refine ⟨a, k, vs, rfl, ry, sa, fun z => c.1 (List.length_eq_zero_iff.mp (by rw [ra.len, z]; rfl)), c.2.1, c.2.2.1, by rw [← ra.len]; exact c.2.2.2, fun p hp => ?_⟩
      obtain ⟨rl2, ex2⟩ := rl.frozen hp (.tup (List.replicate k.toNat vs).flatten)
      have hl : (List.replicate k.toNat xs).flatten.length ≤ sizeLine := by
        rw [flat_len]
        have h1 : k.toNat ≤ 1000 := by omega
        have h2 : xs.length * k.toNat ≤ 1000 * 1000 := Nat.mul_le_mul c.2.2.2 h1
        exact Nat.le_trans h2 (by decide)
      exact q _ _ _ _ ex2 rl2 (by rw [Rep]; exact ⟨p, _, rfl, SqT.of upd_same, hl, (ra.flat _).mono ex2⟩)
    · cases e
  · cases e
def oMul := oOr oMulI (oOr oMulT oMulL)
theorem jo_mul : JOp X (binaryOp .Mult) oMul := jo_mulI.or (jo_mulT.or jo_mulL)
mutual
def toD : PV → PyData
  | .non => .none
  | .bl b => .bool b
  | .int i => .int i
  | .str x => .str x
  | .tup xs => .tuple (toDs xs)
  | .lst xs => .list (toDs xs)
  | .scr ns => .list (ns.map PyData.int)
  | .own _ => .none
  | .glo _ => .none
def toDs : List PV → List PyData
  | [] => []
  | x :: xs => toD x :: toDs xs
end
mutual
/-- plain data, at most so deep -/
def dOk : Nat → PV → Bool
  | _, .non => true
  | _, .bl _ => true
  | _, .int _ => true
  | _, .str x => PyData.strOk x
  | 0, .tup _ => false
  | n + 1, .tup xs => dOks n xs
  | 0, .lst _ => false
  | n + 1, .lst xs => dOks n xs
  | 0, .scr _ => false
  | _ + 1, .scr _ => true
  | _, .own _ => false
  | _, .glo _ => false
def dOks : Nat → List PV → Bool
  | _, [] => true
  | n, x :: xs => dOk n x && dOks n xs
end
mutual
/-- == -/
def peq : PV → PV → Bool
  | .non, .non => true
  | .bl a, .bl b => a == b
  | .bl a, .int j => (if a then 1 else 0) == j
  | .int i, .bl b => i == (if b then 1 else 0)
  | .int i, .int j => i == j
  | .str x, .str y => x == y
  | .tup xs, .tup ys => peqs xs ys
  | .lst xs, .lst ys => peqs xs ys
  | _, _ => false
def peqs : List PV → List PV → Bool
  | [], [] => true
  | x :: xs, y :: ys => peq x y && peqs xs ys
  | _, _ => false
end
mutual
theorem lay_toD : ∀ (n : Nat) (p : PV), dOk n p = true → (toD p).canLay0 = true ∧ (toD p).depth ≤ n
  | n, .non, h => ⟨rfl, Nat.zero_le _⟩
  | n, .bl _, h => ⟨rfl, Nat.zero_le _⟩
  | n, .int _, h => ⟨rfl, Nat.zero_le _⟩
  | n, .str x, h => by
    refine ⟨?_, Nat.zero_le _⟩
    unfold toD PyData.canLay0
    simpa [dOk] using h
  | 0, .tup _, h => by simp [dOk] at h
  | n + 1, .tup xs, h => by
    rw [dOk] at h
    obtain ⟨a, b⟩ := lay_toDs n xs h
    exact ⟨by unfold toD PyData.canLay0; exact a, by unfold toD PyData.depth; omega⟩
  | 0, .lst _, h => by simp [dOk] at h
  | n + 1, .lst xs, h => by
    rw [dOk] at h
    obtain ⟨a, b⟩ := lay_toDs n xs h
    exact ⟨by unfold toD PyData.canLay0; exact a, by unfold toD PyData.depth; omega⟩
  | 0, .scr _, h => by simp [dOk] at h
  | n + 1, .scr ns, h => by
    have : ∀ ns : List Int, PyData.canLayAll0 (ns.map PyData.int) = true ∧ PyData.depthAll (ns.map PyData.int) = 0 := fun ns => by
      induction ns with
      | nil => exact ⟨rfl, rfl⟩
      | cons a r ih =>
        refine ⟨?_, ?_⟩
        · rw [List.map_cons, PyData.canLayAll0, ih.1]; rfl
        · rw [List.map_cons, PyData.depthAll, ih.2]; rfl
    obtain ⟨a, b⟩ := this ns
    exact ⟨by unfold toD PyData.canLay0; exact a, by unfold toD PyData.depth; omega⟩
  | n, .own _, h => by cases n <;> simp [dOk] at h
  | n, .glo _, h => by cases n <;> simp [dOk] at h
theorem lay_toDs : ∀ (n : Nat) (ps : List PV), dOks n ps = true → PyData.canLayAll0 (toDs ps) = true ∧ PyData.depthAll (toDs ps) ≤ n
  | n, [], h => ⟨rfl, Nat.zero_le _⟩
  | n, x :: xs, h => by
    rw [dOks, Bool.and_eq_true] at h
    obtain ⟨a, b⟩ := lay_toD n x h.1
    obtain ⟨c, d⟩ := lay_toDs n xs h.2
    exact ⟨by unfold toDs PyData.canLayAll0; rw [a, c]; rfl, by unfold toDs PyData.depthAll; omega⟩
end
mutual
def noScr : PV → Bool
  | .tup xs => noScrs xs
  | .lst xs => noScrs xs
  | .scr _ => false
  | .own _ => false
  | .glo _ => false
  | _ => true
def noScrs : List PV → Bool
  | [] => true
  | x :: xs => noScr x && noScrs xs
end
mutual
theorem eqv_toD : ∀ (p q : PV), noScr p = true → noScr q = true → PyData.eqv (toD p) (toD q) = peq p q
  | p, q, hp, hq => by
    cases p <;> cases q <;> first
      | (simp [noScr] at hp; done)
      | (simp [noScr] at hq; done)
      | (unfold toD PyData.eqv peq; rfl)
      | (rename_i xs ys; rw [noScr] at hp hq; unfold toD PyData.eqv peq; exact eqv_toDs xs ys hp hq)
theorem eqv_toDs : ∀ (ps qs : List PV), noScrs ps = true → noScrs qs = true → PyData.eqvAll (toDs ps) (toDs qs) = peqs ps qs
  | [], [], _, _ => by unfold toDs PyData.eqvAll peqs; rfl
  | [], _ :: _, _, _ => by unfold toDs PyData.eqvAll peqs; rfl
  | _ :: _, [], _, _ => by unfold toDs PyData.eqvAll peqs; rfl
  | x :: xs, y :: ys, hp, hq => by
    rw [noScrs, Bool.and_eq_true] at hp hq
    unfold toDs PyData.eqvAll peqs
    rw [eqv_toD x y hp.1 hq.1, eqv_toDs xs ys hp.2 hq.2]
end
section
variable {K : PySem.W.Frag} {mg : Str → Option Value} {Z Fz : Hp} {ρ : List Addr} {st : Store} {H : Hp}
mutual
theorem dp_of (hf : ∀ a o, Fz a = some o → H a = some o) : ∀ (n : Nat) (p : PV) {v : V}, dOk n p = true → noScr p = true → Rep K mg Fz ρ p v → Dp K H v (toD p)
  | n, .non, v, h, _, r => by rw [Rep] at r; subst r; exact .non
  | n, .bl _, v, h, _, r => by rw [Rep] at r; subst r; exact .bl _
  | n, .int _, v, h, _, r => by rw [Rep] at r; subst r; exact .int _
  | n, .str _, v, h, _, r => by rw [Rep] at r; subst r; exact .str _
  | 0, .tup _, _, h, _, _ => by simp [dOk] at h
  | n + 1, .tup xs, v, h, hs, r => by
    rw [dOk] at h
    rw [noScr] at hs
    rw [Rep] at r
    obtain ⟨a, vs, rfl, r1, _, r2⟩ := r
    exact .tup (sqT_mono hf r1) (dp_ofs hf n xs h hs r2)
  | 0, .lst _, _, h, _, _ => by simp [dOk] at h
  | n + 1, .lst xs, v, h, hs, r => by
    rw [dOk] at h
    rw [noScr] at hs
    rw [Rep] at r
    obtain ⟨a, vs, rfl, r1, _, r2⟩ := r
    exact .lst (SqL.of (hf _ _ r1)) (dp_ofs hf n xs h hs r2)
  | n, .scr _, _, _, hs, _ => by simp [noScr] at hs
  | n, .own _, _, h, _, _ => by cases n <;> simp [dOk] at h
  | n, .glo _, _, h, _, _ => by cases n <;> simp [dOk] at h
theorem dp_ofs (hf : ∀ a o, Fz a = some o → H a = some o) : ∀ (n : Nat) (ps : List PV) {vs : List V}, dOks n ps = true → noScrs ps = true → RepL K mg Fz ρ ps vs → DpAll K H vs (toDs ps)
  | n, [], vs, h, _, r => by rw [RepL] at r; subst r; exact .nil
  | n, x :: xs, vs, h, hs, r => by
    rw [dOks, Bool.and_eq_true] at h
    rw [noScrs, Bool.and_eq_true] at hs
    rw [RepL] at r
    obtain ⟨v, w, rfl, r1, r2⟩ := r
    exact .cons (dp_of hf n x h.1 hs.1 r1) (dp_ofs hf n xs h.2 hs.2 r2)
end
end
def rsv (st : Store) : PV → PV
  | .scr ns => .lst (ns.map PV.int)
  | .own k => (match st[k]? with
    | some (.lst xs) => .lst xs
    | some (.frz xs) => .lst xs
    | _ => .own k)
  | p => p
def dChk (p : PV) : Bool := dOk 60 p && noScr p
theorem dp_rsv {K : PySem.W.Frag} {mg : Str → Option Value} {Z Fz : Hp} {ρ : List Addr} {st : Store} {H : Hp} {p : PV} {v : V} (rl : Rel K mg Z Fz ρ st H) (r : Rep K mg Fz ρ p v) (h : dChk (rsv st p) = true) : Dp K H v (toD (rsv st p)) := by
  unfold dChk at h
  rw [Bool.and_eq_true] at h
  have key : ∀ xs, asL st p = some xs → rsv st p = .lst xs → Dp K H v (toD (rsv st p)) := fun xs e1 e2 => by
    obtain ⟨a, vs, rfl, s, _, rr⟩ := asL_ok rl r e1
    rw [e2] at h ⊢
    rw [dOk] at h
    rw [noScr] at h
    exact .lst s (dp_ofs rl.fz 59 xs h.1 h.2 rr)
  cases p with
  | scr ns => exact key _ rfl rfl
  | own k =>
    cases e : st[k]? with
    | none => simp [rsv, e, dOk] at h
    | some c =>
      cases c with
      | lst xs => exact key xs (by simp [asL, e]) (by simp [rsv, e])
      | frz xs => exact key xs (by simp [asL, e]) (by simp [rsv, e])
      | dct _ => simp [rsv, e, dOk] at h
      | dcn _ => simp [rsv, e, dOk] at h
      | dkf _ => simp [rsv, e, dOk] at h
      | dnf _ => simp [rsv, e, dOk] at h
      | tpl _ => simp [rsv, e, dOk] at h
      | ins _ _ => simp [rsv, e, dOk] at h
      | exc _ => simp [rsv, e, dOk] at h
  | _ => exact dp_of rl.fz 60 _ h.1 h.2 r
theorem shaped_chk {p : PV} (h : dChk p = true) : SeqAt.shaped (toD p) = true := by
  unfold dChk at h
  rw [Bool.and_eq_true] at h
  obtain ⟨a, b⟩ := lay_toD 60 p h.1
  unfold SeqAt.shaped
  rw [a, Bool.true_and, decide_eq_true_eq]
  omega
def oEq : PV → PV → Store → Option PV := fun x y st => if (dChk (rsv st x) && dChk (rsv st y)) = true then some (.bl (peq (rsv st x) (rsv st y))) else none
def oNe : PV → PV → Store → Option PV := fun x y st => if (dChk (rsv st x) && dChk (rsv st y)) = true then some (.bl (!peq (rsv st x) (rsv st y))) else none
theorem jo_eq (hu : X.A.units + 64 < cLine) : JOp X (compareOp .Eq) oEq := by
  refine ⟨_, op_eqD hu, fun Z Fz ρ st H x y px py pz Q rl rx ry e q => ?_⟩
  unfold oEq at e
  split at e
  · rename_i c
    rw [Bool.and_eq_true] at c
    cases e
    refine ⟨_, _, dp_rsv rl rx c.1, dp_rsv rl ry c.2, shaped_chk c.1, shaped_chk c.2, ?_⟩
    have c1 := c.1
    have c2 := c.2
    unfold dChk at c1 c2
    rw [Bool.and_eq_true] at c1 c2
    rw [eqv_toD _ _ c1.2 c2.2]
    exact q Fz ρ H _ Ext.refl rl (by rw [Rep])
  · cases e
theorem jo_ne (hu : X.A.units + 64 < cLine) : JOp X (compareOp .NotEq) oNe := by
  refine ⟨_, op_neD hu, fun Z Fz ρ st H x y px py pz Q rl rx ry e q => ?_⟩
  unfold oNe at e
  split at e
  · rename_i c
    rw [Bool.and_eq_true] at c
    cases e
    refine ⟨_, _, dp_rsv rl rx c.1, dp_rsv rl ry c.2, shaped_chk c.1, shaped_chk c.2, ?_⟩
    have c1 := c.1
    have c2 := c.2
    unfold dChk at c1 c2
    rw [Bool.and_eq_true] at c1 c2
    rw [eqv_toD _ _ c1.2 c2.2]
    exact q Fz ρ H _ Ext.refl rl (by rw [Rep])
  · cases e
def oIsN : PV → PV → Store → Option PV
  | x, .non, _ => some (.bl (match x with
    | .non => true
    | _ => false))
  | .bl a, .bl b, _ => some (.bl (decide (a = b)))
  | _, _, _ => none
theorem rep_non {K : PySem.W.Frag} {mg : Str → Option Value} {Fz : Hp} {ρ : List Addr} {p : PV} {v : V} (h : Rep K mg Fz ρ p v) : (v = .non) ↔ (p = .non) := by
  cases p <;> rw [Rep] at h
  case non => simp [h]
  case bl => simp [h]
  case int => simp [h]
  case str => simp [h]
  case tup => obtain ⟨_, _, rfl, _⟩ := h; simp
  case lst => obtain ⟨_, _, rfl, _⟩ := h; simp
  case scr => obtain ⟨_, rfl, _⟩ := h; simp
  case own => obtain ⟨_, _, rfl⟩ := h; simp
  case glo => obtain ⟨_, _, rfl⟩ := h; simp
theorem jo_is : JOp X (compareOp .Is) oIsN := by
  refine ⟨_, (op_isN).or (op_isBl), fun Z Fz ρ st H x y px py pz Q rl rx ry e q => ?_⟩
  unfold oIsN at e
  split at e
  · cases e
    rw [Rep] at ry
    refine .inl ⟨ry, q Fz ρ H _ Ext.refl rl ?_⟩
    rw [Rep]
    have z := rep_non rx
    cases px <;> simp_all
  · cases e
    rw [Rep] at rx ry
    exact .inr ⟨_, _, rx, ry, q Fz ρ H _ Ext.refl rl (by rw [Rep])⟩
  · cases e
end
end Lq
end
section
set_option Elab.async false
set_option linter.all false
set_option maxRecDepth 10000
namespace Lq
open PySem PySem.Spec PyProof.Rows L2
def asS (st : Store) : PV → Option (List PV)
  | .tup xs => some xs
  | p => asL st p
section
variable {K : PySem.W.Frag} {mg : Str → Option Value} {Z Fz : Hp} {ρ : List Addr} {st : Store} {H : Hp} {p : PV} {v : V} {xs : List PV}
theorem asS_ok (r : Rel K mg Z Fz ρ st H) (h : Rep K mg Fz ρ p v) (e : asS st p = some xs) : ∃ a vs, v = .ref a ∧ (SqL K H a vs ∨ SqT K H a vs) ∧ xs.length ≤ sizeLine ∧ RepL K mg Fz ρ xs vs := by
  cases p with
  | tup ys =>
    cases e
    obtain ⟨a, vs, h1, h2, h3, h4⟩ := tup_ok r h
    exact ⟨a, vs, h1, .inr h2, h3, h4⟩
  | _ =>
    obtain ⟨a, vs, h1, h2, h3, h4⟩ := asL_ok r h e
    exact ⟨a, vs, h1, .inl h2, h3, h4⟩
end
def flatP : PV → Bool
  | .non => true
  | .bl _ => true
  | .int _ => true
  | .str _ => true
  | _ => false
section
variable {K : PySem.W.Frag} {mg : Str → Option Value} {Z Fz : Hp} {ρ : List Addr}
theorem flat_rep {p : PV} {v : V} (h : Rep K mg Fz ρ p v) (f : flatP p = true) : flatV v = true := by
  cases p <;> first | (simp [flatP] at f; done) | (rw [Rep] at h; subst h; rfl)
theorem flats_rep : ∀ {ps : List PV} {vs : List V}, RepL K mg Fz ρ ps vs → ps.all flatP = true → vs.all flatV = true
  | [], _, h, _ => by rw [RepL] at h; subst h; rfl
  | x :: xs, _, h, f => by
    rw [RepL] at h
    obtain ⟨v, r, rfl, h1, h2⟩ := h
    rw [List.all_cons, Bool.and_eq_true] at f
    rw [List.all_cons, flat_rep h1 f.1, flats_rep h2 f.2]; rfl
theorem eqV_rep {p q : PV} {v u : V} (h : Rep K mg Fz ρ p v) (h' : Rep K mg Fz ρ q u) (f : flatP p = true) (f' : flatP q = true) : eqV v u = peq p q := by
  cases p <;> first | (simp [flatP] at f; done) | (cases q <;> first | (simp [flatP] at f'; done) | (rw [Rep] at h; rw [Rep] at h'; subst h; subst h'; unfold peq; rfl))
theorem inV_rep {p : PV} {v : V} (h : Rep K mg Fz ρ p v) (f : flatP p = true) : ∀ {ps : List PV} {vs : List V}, RepL K mg Fz ρ ps vs → ps.all flatP = true → inV v vs = ps.any fun z => peq z p
  | [], _, h', _ => by rw [RepL] at h'; subst h'; rfl
  | x :: xs, _, h', f' => by
    rw [RepL] at h'
    obtain ⟨w, r, rfl, h1, h2⟩ := h'
    rw [List.all_cons, Bool.and_eq_true] at f'
    have ih := inV_rep h f h2 f'.2
    unfold inV at ih ⊢
    rw [List.any_cons, List.any_cons, eqV_rep h1 h f'.1 f, ih]
end
section
variable {X : Cx}
def oInF : PV → PV → Store → Option PV := fun x y st => match asS st y with
  | some xs => if (flatP x && xs.all flatP) = true then some (.bl (xs.any fun z => peq z x)) else none
  | none => none
def oNinF : PV → PV → Store → Option PV := fun x y st => match asS st y with
  | some xs => if (flatP x && xs.all flatP) = true then some (.bl (!xs.any fun z => peq z x)) else none
  | none => none
theorem jo_inF : JOp X (compareOp .In) oInF := by
  refine ⟨_, op_in_seq, fun Z Fz ρ st H x y px py pz Q rl rx ry e q => ?_⟩
  unfold oInF at e
  split at e
  · rename_i xs es
    split at e
    · rename_i c
      rw [Bool.and_eq_true] at c
      cases e
      obtain ⟨a, vs, rfl, s, _, rr⟩ := asS_ok rl ry es
      refine ⟨a, vs, rfl, s, flat_rep rx c.1, flats_rep rr c.2, ?_⟩
      rw [if_neg Bool.false_ne_true, inV_rep rx c.1 rr c.2]
      exact q Fz ρ H _ Ext.refl rl (by rw [Rep])
    · cases e
  · cases e
theorem jo_ninF : JOp X (compareOp .NotIn) oNinF := by
  refine ⟨_, op_notIn_seq, fun Z Fz ρ st H x y px py pz Q rl rx ry e q => ?_⟩
  unfold oNinF at e
  split at e
  · rename_i xs es
    split at e
    · rename_i c
      rw [Bool.and_eq_true] at c
      cases e
      obtain ⟨a, vs, rfl, s, _, rr⟩ := asS_ok rl ry es
      refine ⟨a, vs, rfl, s, flat_rep rx c.1, flats_rep rr c.2, ?_⟩
      rw [if_pos rfl, inV_rep rx c.1 rr c.2]
      exact q Fz ρ H _ Ext.refl rl (by rw [Rep])
    · cases e
  · cases e
def subIn (i j : Str) : Bool := match i.cps.toList with
  | [c] => decide (c ∈ j.cps.toList)
  | _ => !(Builtin.Str.occurrences j i 0 j.length 1).isEmpty
theorem one_sign {i : Str} {c : Nat} (h : i.cps.toList = [c]) : i = ⟨#[c]⟩ := by
  obtain ⟨a⟩ := i
  have h' : a.toList = [c] := h
  have : a = #[c] := by rw [← Array.toArray_toList (xs := a), h']
  rw [this]
def oInS : PV → PV → Store → Option PV
  | .str i, .str j, _ => some (.bl (subIn i j))
  | _, _, _ => none
def oNinS : PV → PV → Store → Option PV
  | .str i, .str j, _ => some (.bl (!subIn i j))
  | _, _, _ => none
theorem jo_inS : JOp X (compareOp .In) oInS := by
  refine ⟨_, (op_in_sign).or op_in_str, fun Z Fz ρ st H x y px py pz Q rl rx ry e q => ?_⟩
  unfold oInS at e
  split at e
  · rename_i i j
    cases e
    rw [Rep] at rx ry
    have z := q Fz ρ H (.bl (subIn i j)) Ext.refl rl (by rw [Rep])
    unfold subIn at z
    split at z
    · rename_i c hc
      exact .inl ⟨c, j, by rw [rx, one_sign hc], ry, z⟩
    · exact .inr ⟨i, j, rx, ry, z⟩
  · cases e
theorem jo_ninS : JOp X (compareOp .NotIn) oNinS := by
  refine ⟨_, (op_notIn_sign).or op_notIn_str, fun Z Fz ρ st H x y px py pz Q rl rx ry e q => ?_⟩
  unfold oNinS at e
  split at e
  · rename_i i j
    cases e
    rw [Rep] at rx ry
    have z := q Fz ρ H (.bl (!subIn i j)) Ext.refl rl (by rw [Rep])
    unfold subIn at z
    split at z
    · rename_i c hc
      exact .inl ⟨c, j, by rw [rx, one_sign hc], ry, z⟩
    · exact .inr ⟨i, j, rx, ry, z⟩
  · cases e
def oInD : PV → PV → Store → Option PV := fun x y st => match rsv st y with
  | .lst xs => if (dChk x && dChk (.lst xs)) = true then some (.bl (xs.any fun z => peq z x)) else none
  | _ => none
def oNinD : PV → PV → Store → Option PV := fun x y st => match rsv st y with
  | .lst xs => if (dChk x && dChk (.lst xs)) = true then some (.bl (!xs.any fun z => peq z x)) else none
  | _ => none
theorem any_toD {x : PV} (hx : noScr x = true) : ∀ (xs : List PV), noScrs xs = true → ((toDs xs).any fun z => PyData.eqv z (toD x)) = xs.any fun z => peq z x
  | [], _ => by unfold toDs; rfl
  | y :: ys, h => by
    rw [noScrs, Bool.and_eq_true] at h
    unfold toDs
    rw [List.any_cons, List.any_cons, eqv_toD y x h.1 hx, any_toD hx ys h.2]
theorem dp_x {Z Fz : Hp} {ρ : List Addr} {st : Store} {H : Hp} {p : PV} {v : V} (rl : Rel X.K X.mg Z Fz ρ st H) (r : Rep X.K X.mg Fz ρ p v) (h : dChk p = true) : Dp X.K H v (toD p) := by
  unfold dChk at h
  rw [Bool.and_eq_true] at h
  exact dp_of rl.fz 60 _ h.1 h.2 r
theorem jo_inD (hu : X.A.units + 65 < cLine) : JOp X (compareOp .In) oInD := by
  refine ⟨_, op_inD hu, fun Z Fz ρ st H x y px py pz Q rl rx ry e q => ?_⟩
  unfold oInD at e
  split at e
  · rename_i xs er
    split at e
    · rename_i c
      rw [Bool.and_eq_true] at c
      cases e
      have d := dp_rsv rl ry (by rw [er]; exact c.2)
      rw [er] at d
      have s2 := shaped_chk c.2
      rw [toD] at d s2
      refine ⟨_, _, dp_x rl rx c.1, d, shaped_chk c.1, s2, ?_⟩
      have c1 := c.1
      have c2 := c.2
      unfold dChk at c1 c2
      rw [Bool.and_eq_true] at c1 c2
      rw [any_toD c1.2 xs (by have := c2.2; rw [noScr] at this; exact this)]
      exact q Fz ρ H _ Ext.refl rl (by rw [Rep])
    · cases e
  · cases e
theorem jo_ninD (hu : X.A.units + 65 < cLine) : JOp X (compareOp .NotIn) oNinD := by
  refine ⟨_, op_notInD hu, fun Z Fz ρ st H x y px py pz Q rl rx ry e q => ?_⟩
  unfold oNinD at e
  split at e
  · rename_i xs er
    split at e
    · rename_i c
      rw [Bool.and_eq_true] at c
      cases e
      have d := dp_rsv rl ry (by rw [er]; exact c.2)
      rw [er] at d
      have s2 := shaped_chk c.2
      rw [toD] at d s2
      refine ⟨_, _, dp_x rl rx c.1, d, shaped_chk c.1, s2, ?_⟩
      have c1 := c.1
      have c2 := c.2
      unfold dChk at c1 c2
      rw [Bool.and_eq_true] at c1 c2
      rw [any_toD c1.2 xs (by have := c2.2; rw [noScr] at this; exact this)]
      exact q Fz ρ H _ Ext.refl rl (by rw [Rep])
    · cases e
  · cases e
def oIn := oOr oInF (oOr oInS oInD)
def oNin := oOr oNinF (oOr oNinS oNinD)
theorem jo_in (hu : X.A.units + 65 < cLine) : JOp X (compareOp .In) oIn := jo_inF.or (jo_inS.or (jo_inD hu))
theorem jo_nin (hu : X.A.units + 65 < cLine) : JOp X (compareOp .NotIn) oNin := jo_ninF.or (jo_ninS.or (jo_ninD hu))
def asInts : List PV → Option (List Int)
  | [] => some []
  | .int i :: r => (asInts r).map (i :: ·)
  | _ :: _ => none
theorem asInts_eq : ∀ {xs : List PV} {ns : List Int}, asInts xs = some ns → xs = ns.map PV.int
  | [], ns, h => by cases h; rfl
  | x :: r, ns, h => by
    cases x <;> first | (simp [asInts] at h; done) | skip
    rename_i i
    cases e : asInts r with
    | none => simp [asInts, e] at h
    | some ms =>
      have : ns = i :: ms := by simp [asInts, e] at h; exact h.symm
      subst this
      rw [asInts_eq e]; rfl
def oLtT : PV → PV → Store → Option PV
  | .tup xs, .tup ys, _ => (match asInts xs, asInts ys with
    | some ns, some ms => some (.bl (HT.lexLt ns ms))
    | _, _ => none)
  | _, _, _ => none
theorem jo_ltT (hu : X.A.units < cLine) : JOp X (compareOp .Lt) oLtT := by
  refine ⟨_, op_ltT hu, fun Z Fz ρ st H x y px py pz Q rl rx ry e q => ?_⟩
  unfold oLtT at e
  split at e
  · rename_i xs ys
    split at e
    · rename_i ns ms e1 e2
      cases e
      obtain ⟨a, vs, rfl, sa, _, ra⟩ := tup_ok rl rx
      obtain ⟨b, ws, rfl, sb, _, rb⟩ := tup_ok rl ry
      rw [asInts_eq e1] at ra
      rw [asInts_eq e2] at rb
      rw [RepL.of_ints ra] at sa
      rw [RepL.of_ints rb] at sb
      exact ⟨a, b, ns, ms, rfl, rfl, sa, sb, q Fz ρ H _ Ext.refl rl (by rw [Rep])⟩
    · cases e
  · cases e
def oLt := oOr oLtI oLtT
theorem jo_lt (hu : X.A.units < cLine) : JOp X (compareOp .Lt) oLt := jo_ltI.or (jo_ltT hu)
def JIx (X : Cx) (o : PV → PV → Store → Option PV) : Prop := ∃ r : R2, IxR X r ∧
  ∀ Z Fz ρ st H x y px py pz Q, Rel X.K X.mg Z Fz ρ st H → Rep X.K X.mg Fz ρ px x → Rep X.K X.mg Fz ρ py y → o px py st = some pz →
    (∀ Fz' ρ' H' v', Ext Fz ρ Fz' ρ' → Rel X.K X.mg Z Fz' ρ' st H' → Rep X.K X.mg Fz' ρ' pz v' → Q v' H') → r x y H Q
def oIx : PV → PV → Store → Option PV := fun x y st => match y with
  | .int i => (match x with
    | .str z => if z.length ≤ sizeLine then (atI z.cps.toList i).map fun c => .str ⟨#[c]⟩ else none
    | _ => (match asS st x with
      | some xs => atI xs i
      | none => none))
  | _ => none
theorem atI_rep {K : PySem.W.Frag} {mg : Str → Option Value} {Fz : Hp} {ρ : List Addr} {ps : List PV} {vs : List V} {i : Int} {p : PV} (h : RepL K mg Fz ρ ps vs) (e : atI ps i = some p) : ∃ v, atI vs i = some v ∧ Rep K mg Fz ρ p v := by
  unfold atI at e ⊢
  rw [← h.len]
  cases q : ixN ps.length i with
  | none => rw [q] at e; cases e
  | some j =>
    rw [q] at e
    exact RepL.get (i := j) h e
theorem jx_ix : JIx X oIx := by
  refine ⟨_, ix_seq, fun Z Fz ρ st H x y px py pz Q rl rx ry e q => ?_⟩
  unfold oIx at e
  split at e
  · rename_i i
    rw [Rep] at ry
    split at e
    · rename_i z
      rw [Rep] at rx
      split at e
      · rename_i hz
        cases a : atI z.cps.toList i with
        | none => rw [a] at e; cases e
        | some c =>
          rw [a] at e
          cases e
          exact .inr (.inr ⟨z, i, c, rx, ry, hz, a, q Fz ρ H _ Ext.refl rl (by rw [Rep])⟩)
      · cases e
    · split at e
      · rename_i xs es
        obtain ⟨a, vs, rfl, s, _, rr⟩ := asS_ok rl rx es
        obtain ⟨v, ev, rv⟩ := atI_rep rr e
        rcases s with s | s
        · exact .inl ⟨a, vs, i, v, rfl, ry, s, ev, q Fz ρ H _ Ext.refl rl rv⟩
        · exact .inr (.inl ⟨a, vs, i, v, rfl, ry, s, ev, q Fz ρ H _ Ext.refl rl rv⟩)
      · cases e
  · cases e
variable {E : XK} {a b e : Expr} {es : List Expr} {pos : Pos} {fa fb : XE}
theorem je_ix {o} (h : JIx X o) (ha : JE X E a fa) (hb : JE X E b fb) (hs : PlainIx b := by exact fun _ _ => rfl) : JE X E (.Subscript a b pos) (eBin o fa fb) := by
  obtain ⟨r, hr, sr⟩ := h
  obtain ⟨ta, pa, sa⟩ := ha
  obtain ⟨tb, pb, sb⟩ := hb
  exact ⟨tOp r ta tb, pe_ix hr pa pb hs, sbin sr sa sb⟩
def cutP (xs : List PV) (lo hi : Option Int) : List PV := (xs.drop (HT.sIx xs.length 0 lo)).take (HT.sIx xs.length xs.length hi - HT.sIx xs.length 0 lo)
def oCut (x : PV) (lo hi : Option Int) (st : Store) : Option PV := match x with
  | .str z => if z.length ≤ sizeLine then some (.str (cutS z lo hi)) else none
  | .tup xs => some (.tup (cutP xs lo hi))
  | _ => (match asL st x with
    | some xs => some (.lst (cutP xs lo hi))
    | none => none)
def XO := Ev → Store → R (Option Int)
def pNone : XO := fun _ st => .ok none st
def pSome (f : XE) : XO := fun env st => (f env st).bind fun v s => match v with
  | .int i => .ok (some i) s
  | _ => .no
def eCut (f : XE) (lo hi : XO) : XE := fun env st => (f env st).bind fun x s1 => (lo env s1).bind fun l s2 => (hi env s2).bind fun u s3 => match oCut x l u s3 with
  | some z => .ok z s3
  | none => .no
theorem SlR.or {r r' : V → Option Int → Option Int → Hp → VK → Prop} (h : L2.SlR X r) (h' : L2.SlR X r') : L2.SlR X (fun x lo hi H Q => r x lo hi H Q ∨ r' x lo hi H Q) :=
  fun pins s σ H x v vl vu lo hi sl Q I rx a b c q => q.elim (fun q => h pins s σ H x v vl vu lo hi sl Q I rx a b c q) fun q => h' pins s σ H x v vl vu lo hi sl Q I rx a b c q
def oNeg : PV → Option PV
  | .int i => some (.int (-i))
  | _ => none
theorem je_neg (h : JE X E a fa) : JE X E (.UnaryOp .USub a pos) (eUn oNeg fa) := by
  obtain ⟨t, p, s⟩ := h
  refine ⟨_, pe_un un_neg p, fun Z Fz ρ env st σ H Q rl hh o => ?_⟩
  refine s Z Fz ρ env st σ H _ rl hh (o.seq.mono fun x s1 F1 r1 H1 _ ex1 rl1 o1 x' rx => ?_)
  split at o1
  · rename_i z ez
    unfold oNeg at ez
    split at ez
    · cases ez
      rw [Rep] at rx
      exact ⟨_, rx, o1.here rl1 _ (by rw [Rep])⟩
    · cases ez
  · exact o1.elim
end
end Lq
end
section
set_option Elab.async false
set_option linter.all false
set_option maxRecDepth 10000
namespace Lq
open PySem PySem.Spec PyProof.Rows L2
def JC (X : Cx) (f : Value) (o : List PV → Store → Option PV) : Prop := ∃ r : List V → Hp → VK → Prop, CallR X f r ∧
  ∀ Z Fz ρ st H vs ps pz Q, Rel X.K X.mg Z Fz ρ st H → RepL X.K X.mg Fz ρ ps vs → o ps st = some pz →
    (∀ Fz' ρ' H' v', Ext Fz ρ Fz' ρ' → Rel X.K X.mg Z Fz' ρ' st H' → Rep X.K X.mg Fz' ρ' pz v' → Q v' H') → r vs H Q
def eCB (o : List PV → Store → Option PV) (a : XL) : XE := fun env st => (a env st).bind fun xs s => match o xs s with
  | some z => .ok z s
  | none => .no
section
variable {X : Cx} {E : XK} {a b e : Expr} {es : List Expr} {p pos : Pos} {fa fb : XE} {f : XL} {x : Str} {id T : String}
theorem s_cb {r : List V → Hp → VK → Prop} {t : TA} {o : List PV → Store → Option PV} (sr : ∀ Z Fz ρ st H vs ps pz Q, Rel X.K X.mg Z Fz ρ st H → RepL X.K X.mg Fz ρ ps vs → o ps st = some pz →
    (∀ Fz' ρ' H' v', Ext Fz ρ Fz' ρ' → Rel X.K X.mg Z Fz' ρ' st H' → Rep X.K X.mg Fz' ρ' pz v' → Q v' H') → r vs H Q) (s : SA X.K X.mg E t f) : SE X.K X.mg E (tCB r t) (eCB o f) := fun Z Fz ρ env st σ H Q rl hh o => by
  refine s Z Fz ρ env st σ H _ rl hh (o.seq.mono fun xs s1 F1 r1 H1 _ ex1 rl1 o1 xs' rx => ?_)
  split at o1
  · rename_i z ez
    exact sr Z F1 r1 s1 H1 xs' xs z Q rl1 rx ez fun F2 r2 H2 v' ex2 rl2 rz => o1 F2 r2 H2 ex2 rl2 v' rz
  · exact o1.elim
theorem je_callB {o} (h : JC X (.builtin id) o) (ha : JA X E (e :: es) f) (hm : X.mg x = none) (hv : bootBuiltins x = some (.builtin id)) (hg : Gl X x := by rfl) (hn : x ≠ "__name__" := by decide) (hdb : (x == ("__debug__" : Str)) = false := by decide)
    (he : starEach (e :: es) X.env = (false, eval e X.env) :: starEach es X.env := by rfl) (hpl : (backTo pos (starEach es X.env)).any (·.1) = false := by rfl) : JE X E (.Call (.Name x p) (e :: es) [] pos) (eCB o f) := by
  obtain ⟨r, hr, sr⟩ := h
  obtain ⟨t, pt, st⟩ := ha
  exact ⟨_, pe_callB hr hg hm hv pt hn hdb he hpl, s_cb sr st⟩
theorem je_callTy {o} (h : JC X (.type T) o) (ha : JA X E (e :: es) f) (hm : X.mg x = none) (hv : bootBuiltins x = some (.type T)) (hg : Gl X x := by rfl) (hn : x ≠ "__name__" := by decide) (hdb : (x == ("__debug__" : Str)) = false := by decide)
    (he : starEach (e :: es) X.env = (false, eval e X.env) :: starEach es X.env := by rfl) (hpl : (backTo pos (starEach es X.env)).any (·.1) = false := by rfl) : JE X E (.Call (.Name x p) (e :: es) [] pos) (eCB o f) := by
  obtain ⟨r, hr, sr⟩ := h
  obtain ⟨t, pt, st⟩ := ha
  exact ⟨_, pe_callTy hr hg hm hv pt hn hdb he hpl, s_cb sr st⟩
theorem rep1 {K : PySem.W.Frag} {mg : Str → Option Value} {Fz : Hp} {ρ : List Addr} {p : PV} {vs : List V} (h : RepL K mg Fz ρ [p] vs) : ∃ v, vs = [v] ∧ Rep K mg Fz ρ p v := by
  rw [RepL] at h
  obtain ⟨v, r, rfl, h1, h2⟩ := h
  rw [RepL] at h2
  subst h2
  exact ⟨v, rfl, h1⟩
def oLen : List PV → Store → Option PV
  | [.str z], _ => if z.length ≤ sizeLine then some (.int z.length) else none
  | [p], st => (match asS st p with
    | some xs => some (.int xs.length)
    | none => none)
  | _, _ => none
theorem jc_len : JC X (.builtin "len") oLen := by
  refine ⟨_, call_len, fun Z Fz ρ st H vs ps pz Q rl rp e q => ?_⟩
  unfold oLen at e
  split at e
  · obtain ⟨v, rfl, rv⟩ := rep1 rp
    rw [Rep] at rv
    subst rv
    split at e
    · rename_i hz
      cases e
      exact ⟨_, _, rfl, ⟨hz, rfl⟩, q Fz ρ H _ Ext.refl rl (by rw [Rep])⟩
    · cases e
  · obtain ⟨v, rfl, rv⟩ := rep1 rp
    split at e
    · rename_i xs es
      cases e
      obtain ⟨a, ws, rfl, s, _, rr⟩ := asS_ok rl rv es
      refine ⟨_, ws.length, rfl, ?_, q Fz ρ H _ Ext.refl rl (by rw [Rep, rr.len])⟩
      exact s.imp (fun s => ⟨ws, s, rfl⟩) fun s => ⟨ws, s, rfl⟩
    · cases e
  · cases e
theorem CallR.or {f : Value} {r r' : List V → Hp → VK → Prop} (h : CallR X f r) (h' : CallR X f r') : CallR X f (fun vs H Q => r vs H Q ∨ r' vs H Q) :=
  fun pins s σ H xs us Q I rv q => q.elim (fun q => h pins s σ H xs us Q I rv q) fun q => h' pins s σ H xs us Q I rv q
def oSum : List PV → Store → Option PV
  | [p], st => (match asL st p with
    | some xs => (asInts xs).map fun ns => .int ns.sum
    | none => none)
  | _, _ => none
theorem jc_sum (hc : X.calm = true) : JC X (.builtin "sum") oSum := by
  refine ⟨_, cr_sum hc, fun Z Fz ρ st H vs ps pz Q rl rp e q => ?_⟩
  unfold oSum at e
  split at e
  · obtain ⟨v, rfl, rv⟩ := rep1 rp
    split at e
    · rename_i xs es
      cases en : asInts xs with
      | none => rw [en] at e; cases e
      | some ns =>
        rw [en] at e
        cases e
        obtain ⟨a, ws, rfl, s, _, rr⟩ := asL_ok rl rv es
        rw [asInts_eq en] at rr
        rw [RepL.of_ints rr] at s
        exact ⟨a, ns, rfl, s, q Fz ρ H _ Ext.refl rl (by rw [Rep])⟩
    · cases e
  · cases e
def maxI : Int → List Int → Int
  | m, [] => m
  | m, x :: r => maxI (if m < x then x else m) r
def minI : Int → List Int → Int
  | m, [] => m
  | m, x :: r => minI (if x < m then x else m) r
theorem maxI_spec : ∀ (m : Int) (l : List Int), maxI m l ∈ m :: l ∧ ∀ y ∈ m :: l, y ≤ maxI m l
  | m, [] => ⟨by simp [maxI], by simp [maxI]⟩
  | m, x :: r => by
    obtain ⟨h1, h2⟩ := maxI_spec (if m < x then x else m) r
    unfold maxI
    refine ⟨?_, fun y hy => ?_⟩
    · rcases List.mem_cons.mp h1 with h | h
      · rw [h]; split <;> simp
      · simp [h]
    · have h3 := h2 _ List.mem_cons_self
      rcases List.mem_cons.mp hy with h | h
      · exact Int.le_trans (by rw [h]; split <;> omega) h3
      · rcases List.mem_cons.mp h with h | h
        · exact Int.le_trans (by rw [h]; split <;> omega) h3
        · exact h2 y (List.mem_cons_of_mem _ h)
theorem minI_spec : ∀ (m : Int) (l : List Int), minI m l ∈ m :: l ∧ ∀ y ∈ m :: l, minI m l ≤ y
  | m, [] => ⟨by simp [minI], by simp [minI]⟩
  | m, x :: r => by
    obtain ⟨h1, h2⟩ := minI_spec (if x < m then x else m) r
    unfold minI
    refine ⟨?_, fun y hy => ?_⟩
    · rcases List.mem_cons.mp h1 with h | h
      · rw [h]; split <;> simp
      · simp [h]
    · have h3 := h2 _ List.mem_cons_self
      rcases List.mem_cons.mp hy with h | h
      · exact Int.le_trans h3 (by rw [h]; split <;> omega)
      · rcases List.mem_cons.mp h with h | h
        · exact Int.le_trans h3 (by rw [h]; split <;> omega)
        · exact h2 y (List.mem_cons_of_mem _ h)
def oMax : List PV → Store → Option PV
  | [p], st => (match asL st p with
    | some xs => (match asInts xs with
      | some (n :: ns) => some (.int (maxI n ns))
      | _ => none)
    | none => none)
  | _, _ => none
def oMin : List PV → Store → Option PV
  | [p], st => (match asL st p with
    | some xs => (match asInts xs with
      | some (n :: ns) => some (.int (minI n ns))
      | _ => none)
    | none => none)
  | _, _ => none
theorem jc_max (hc : X.calm = true) : JC X (.builtin "max") oMax := by
  refine ⟨_, cr_max hc, fun Z Fz ρ st H vs ps pz Q rl rp e q => ?_⟩
  unfold oMax at e
  split at e
  · obtain ⟨v, rfl, rv⟩ := rep1 rp
    split at e
    · rename_i xs es
      split at e
      · rename_i n ns en
        cases e
        obtain ⟨a, ws, rfl, s, _, rr⟩ := asL_ok rl rv es
        rw [asInts_eq en] at rr
        rw [RepL.of_ints rr] at s
        refine ⟨a, _, rfl, s, by simp, fun m h1 h2 => ?_⟩
        obtain ⟨k1, k2⟩ := maxI_spec n ns
        have : m = maxI n ns := Int.le_antisymm (k2 m h1) (h2 _ k1)
        rw [this]
        exact q Fz ρ H _ Ext.refl rl (by rw [Rep])
      · cases e
    · cases e
  · cases e
theorem jc_min (hc : X.calm = true) : JC X (.builtin "min") oMin := by
  refine ⟨_, cr_min hc, fun Z Fz ρ st H vs ps pz Q rl rp e q => ?_⟩
  unfold oMin at e
  split at e
  · obtain ⟨v, rfl, rv⟩ := rep1 rp
    split at e
    · rename_i xs es
      split at e
      · rename_i n ns en
        cases e
        obtain ⟨a, ws, rfl, s, _, rr⟩ := asL_ok rl rv es
        rw [asInts_eq en] at rr
        rw [RepL.of_ints rr] at s
        refine ⟨a, _, rfl, s, by simp, fun m h1 h2 => ?_⟩
        obtain ⟨k1, k2⟩ := minI_spec n ns
        have : m = minI n ns := Int.le_antisymm (h2 _ k1) (k2 m h1)
        rw [this]
        exact q Fz ρ H _ Ext.refl rl (by rw [Rep])
      · cases e
    · cases e
  · cases e
def asBools : List PV → Option (List Bool)
  | [] => some []
  | .bl b :: r => (asBools r).map (b :: ·)
  | _ :: _ => none
theorem asBools_eq : ∀ {xs : List PV} {ns : List Bool}, asBools xs = some ns → xs = ns.map PV.bl
  | [], ns, h => by cases h; rfl
  | x :: r, ns, h => by
    cases x <;> first | (simp [asBools] at h; done) | skip
    rename_i i
    cases e : asBools r with
    | none => simp [asBools, e] at h
    | some ms =>
      have : ns = i :: ms := by simp [asBools, e] at h; exact h.symm
      subst this
      rw [asBools_eq e]; rfl
theorem of_bools {K : PySem.W.Frag} {mg : Str → Option Value} {Fz : Hp} {ρ : List Addr} : ∀ {ns : List Bool} {vs : List V}, RepL K mg Fz ρ (ns.map PV.bl) vs → vs = ns.map V.bl
  | [], _, h => by rw [List.map_nil, RepL] at h; exact h
  | n :: ns, _, h => by
    rw [List.map_cons, RepL] at h
    obtain ⟨v, r, rfl, h1, h⟩ := h
    rw [Rep] at h1
    rw [h1, of_bools h]; rfl
def oAll : List PV → Store → Option PV
  | [p], st => (match asL st p with
    | some xs => (asBools xs).map fun ns => .bl (ns.all _root_.id)
    | none => none)
  | _, _ => none
def oAny : List PV → Store → Option PV
  | [p], st => (match asL st p with
    | some xs => (asBools xs).map fun ns => .bl (ns.any _root_.id)
    | none => none)
  | _, _ => none
theorem jc_all (hc : X.calm = true) : JC X (.builtin "all") oAll := by
  refine ⟨_, cr_all hc, fun Z Fz ρ st H vs ps pz Q rl rp e q => ?_⟩
  unfold oAll at e
  split at e
  · obtain ⟨v, rfl, rv⟩ := rep1 rp
    split at e
    · rename_i xs es
      cases en : asBools xs with
      | none => rw [en] at e; cases e
      | some ns =>
        rw [en] at e
        cases e
        obtain ⟨a, ws, rfl, s, _, rr⟩ := asL_ok rl rv es
        rw [asBools_eq en] at rr
        rw [of_bools rr] at s
        exact ⟨a, ns, rfl, s, q Fz ρ H _ Ext.refl rl (by rw [Rep])⟩
    · cases e
  · cases e
theorem jc_any (hc : X.calm = true) : JC X (.builtin "any") oAny := by
  refine ⟨_, cr_any hc, fun Z Fz ρ st H vs ps pz Q rl rp e q => ?_⟩
  unfold oAny at e
  split at e
  · obtain ⟨v, rfl, rv⟩ := rep1 rp
    split at e
    · rename_i xs es
      cases en : asBools xs with
      | none => rw [en] at e; cases e
      | some ns =>
        rw [en] at e
        cases e
        obtain ⟨a, ws, rfl, s, _, rr⟩ := asL_ok rl rv es
        rw [asBools_eq en] at rr
        rw [of_bools rr] at s
        exact ⟨a, ns, rfl, s, q Fz ρ H _ Ext.refl rl (by rw [Rep])⟩
    · cases e
  · cases e
def oTuple : List PV → Store → Option PV
  | [.tup xs], _ => some (.tup xs)
  | [p], st => (match asL st p with
    | some xs => some (.tup xs)
    | none => none)
  | _, _ => none
theorem jc_tuple : JC X (.type "tuple") oTuple := by
  refine ⟨_, call_tuple_of, fun Z Fz ρ st H vs ps pz Q rl rp e q => ?_⟩
  unfold oTuple at e
  split at e
  · obtain ⟨v, rfl, rv⟩ := rep1 rp
    cases e
    obtain ⟨a, ws, rfl, s, _, rr⟩ := tup_ok rl rv
    exact ⟨a, ws, rfl, .inr ⟨s, q Fz ρ H _ Ext.refl rl rv⟩⟩
  · obtain ⟨v, rfl, rv⟩ := rep1 rp
    split at e
    · rename_i xs es
      cases e
      obtain ⟨a, ws, rfl, s, hl, rr⟩ := asL_ok rl rv es
      refine ⟨a, ws, rfl, .inl ⟨s, fun p hp => ?_⟩⟩
      obtain ⟨rl2, ex2⟩ := rl.frozen hp (.tup ws)
      exact q _ _ _ _ ex2 rl2 (by rw [Rep]; exact ⟨p, ws, rfl, SqT.of upd_same, hl, rr.mono ex2⟩)
    · cases e
  · cases e
def fList (a : XE) : XL := fun env st => (a env st).bind fun p s => match asS s p with
  | some xs => .ok xs s
  | none => .no
theorem jf_list (ha : JE X E a fa) (hm : X.mg "list" = none) (hg : Gl X "list" := by rfl)
    (he : starEach [a] X.env = (false, eval a X.env) :: starEach [] X.env := by rfl) (hpl : (backTo pos (starEach [] X.env)).any (·.1) = false := by rfl) : JF X E (.Call (.Name "list" p) [a] [] pos) (fList fa) := by
  obtain ⟨t, pt, s⟩ := ha
  refine ⟨_, pe_callTy call_list_of hg hm (by decide +kernel) (pa_cons pt pa_nil he) (he := he) (hpl := hpl), fun Z Fz ρ env st σ H Q rl hh o => ?_⟩
  refine s Z Fz ρ env st σ H _ rl hh (o.seq.mono fun x s1 F1 r1 H1 _ ex1 rl1 o1 x' rx => ?_)
  split at o1
  · rename_i xs es
    obtain ⟨a, ws, rfl, s, hl, rr⟩ := asS_ok rl1 rx es
    exact ⟨a, ws, rfl, s, fun p hp => o1.here rl1 p ws hp hl rr⟩
  · exact o1.elim
def fAdd (a b : XE) : XL := fun env st => (a env st).bind fun x s1 => (b env s1).bind fun y s2 => match asM s2 x, asM s2 y with
  | some xs, some ys => if xs.length + ys.length ≤ sizeLine then .ok (xs ++ ys) s2 else .no
  | _, _ => .no
theorem jf_add (ha : JE X E a fa) (hb : JE X E b fb) : JF X E (.BinOp a .Add b pos) (fAdd fa fb) := by
  obtain ⟨ta, pa, sa⟩ := ha
  obtain ⟨tb, pb, sb⟩ := hb
  refine ⟨_, pe_op op_cat pa pb, fun Z Fz ρ env st σ H Q rl h o => ?_⟩
  refine sa Z Fz ρ env st σ H _ rl h (o.seq.mono fun x s1 F1 r1 H1 _ ex1 rl1 o1 x' rx => ?_)
  refine sb Z F1 r1 env s1 σ H1 _ rl1 (h.mono ex1) (o1.seq.mono fun y s2 F2 r2 H2 _ ex2 rl2 o2 y' ry => ?_)
  split at o2
  · rename_i xs ys ex ey
    split at o2
    · rename_i c
      obtain ⟨a, vs, rfl, sa, la, ra⟩ := asM_ok rl2 (rx.mono ex2) ex
      obtain ⟨b, ws, rfl, sb, lb, rb⟩ := asM_ok rl2 ry ey
      exact ⟨a, b, vs, ws, rfl, rfl, sa, sb, by rw [← ra.len, ← rb.len]; exact c, fun p hp => o2.here rl2 p _ hp (by simpa using c) (ra.app rb)⟩
    · exact o2.elim
  · exact o2.elim
def fMul (a b : XE) : XL := fun env st => (a env st).bind fun x s1 => (b env s1).bind fun y s2 => match asM s2 x, y with
  | some xs, .int k => if -(2 ^ 63) ≤ k ∧ k < 2 ^ 63 ∧ xs.length * k.toNat ≤ sizeLine then .ok (List.replicate k.toNat xs).flatten s2 else .no
  | _, _ => .no
end
inductive Kd where
  | non | bl | int | str | tup | lst | dct
  deriving DecidableEq
def Kd.nm : Kd → String
  | .non => "NoneType" | .bl => "bool" | .int => "int" | .str => "str" | .tup => "tuple" | .lst => "list" | .dct => "dict"
def Kd.isa : Kd → Kd → Bool
  | .bl, .int => true
  | .non, .non => true | .bl, .bl => true | .int, .int => true | .str, .str => true | .tup, .tup => true | .lst, .lst => true | .dct, .dct => true
  | _, _ => false
theorem kitB_ok (a b : Kd) (hb : b ≠ .non) : kitB a.nm b.nm = some (a.isa b) := by
  cases a <;> cases b <;> first | (exact absurd rfl hb) | decide +kernel
def kdOf (st : Store) : PV → Option Kd
  | .non => some .non
  | .bl _ => some .bl
  | .int _ => some .int
  | .str _ => some .str
  | .tup _ => some .tup
  | .lst _ => some .lst
  | .scr _ => some .lst
  | .own k => (match st[k]? with
    | some (.lst _) => some .lst
    | some (.frz _) => some .lst
    | some (.dct _) => some .dct
    | _ => none)
  | .glo _ => none
theorem kd_ok {K : PySem.W.Frag} {mg : Str → Option Value} {Z Fz : Hp} {ρ : List Addr} {st : Store} {H : Hp} {p : PV} {v : V} {k : Kd} (rl : Rel K mg Z Fz ρ st H) (r : Rep K mg Fz ρ p v) (h : kdOf st p = some k) : TyX K H v (.type k.nm) := by
  have tl : ∀ {a : Addr} {vs : List V}, SqL K H a vs → TyX K H (.ref a) (.type "list") := fun {a vs} s => by
    rcases s with (s | ⟨o, s⟩) | ⟨o, its, n, s1, s2, _⟩
    · exact .base (.lst s)
    · exact .base (.frz s)
    · exact .kList s1 s2
  cases p with
  | non => cases h; rw [Rep] at r; subst r; exact .base .non
  | bl b => cases h; rw [Rep] at r; subst r; exact .base (.bl _)
  | int b => cases h; rw [Rep] at r; subst r; exact .base (.int _)
  | str b => cases h; rw [Rep] at r; subst r; exact .base (.str _)
  | tup xs =>
    cases h
    obtain ⟨a, vs, rfl, s, _⟩ := tup_ok rl r
    rcases s with (s | ⟨o, s⟩) | ⟨o, its, n, s1, s2, _⟩
    · exact .base (.tup s)
    · exact .fTuple s
    · exact .kTuple s1 s2
  | lst xs =>
    cases h
    obtain ⟨a, vs, rfl, s, _⟩ := asL_ok (xs := xs) rl r rfl
    exact tl s
  | scr xs =>
    cases h
    obtain ⟨a, vs, rfl, s, _⟩ := asL_ok rl r rfl
    exact tl s
  | own j =>
    have key : ∀ xs, asL st (.own j) = some xs → k = .lst → TyX K H v (.type k.nm) := fun xs e e2 => by
      subst e2
      obtain ⟨a, vs, rfl, s, _⟩ := asL_ok rl r e
      exact tl s
    cases e : st[j]? with
    | none => simp [kdOf, e] at h
    | some c =>
      cases c with
      | lst xs => exact key xs (by simp [asL, e]) (by simp [kdOf, e] at h; exact h.symm)
      | frz xs => exact key xs (by simp [asL, e]) (by simp [kdOf, e] at h; exact h.symm)
      | dct kvs =>
        simp [kdOf, e] at h
        subst h
        rw [Rep] at r
        obtain ⟨a, ea, rfl⟩ := r
        obtain ⟨kv, h1, _⟩ := rl.cell j a _ ea e
        exact .base (.dK h1)
      | dcn _ => simp [kdOf, e] at h
      | dkf _ => simp [kdOf, e] at h
      | dnf _ => simp [kdOf, e] at h
      | tpl _ => simp [kdOf, e] at h
      | ins _ _ => simp [kdOf, e] at h
      | exc _ => simp [kdOf, e] at h
  | glo x => cases h
def eIsi (b : Kd) (f : XE) : XE := fun env st => (f env st).bind fun p s => match kdOf s p with
  | some k => .ok (.bl (k.isa b)) s
  | none => .no
section
variable {X : Cx} {E : XK} {a b e : Expr} {es : List Expr} {p pos : Pos} {fa fb : XE} {f : XL} {x : Str} {id T : String}
theorem je_isi (k : Kd) {y : Str} {q : Pos} (ha : JE X E a fa) (hm : X.mg "isinstance" = none) (hmT : X.mg y = none) (hvT : bootBuiltins y = some (.type k.nm)) (hk : k ≠ .non := by decide) (hg : Gl X "isinstance" := by rfl) (hgT : Gl X y := by rfl)
    (hnT : y ≠ "__name__" := by decide) (hdT : (y == ("__debug__" : Str)) = false := by decide)
    (he : starEach [a, .Name y q] X.env = (false, eval a X.env) :: starEach [.Name y q] X.env := by rfl) (hpl : (backTo pos (starEach [.Name y q] X.env)).any (·.1) = false := by rfl) : JE X E (.Call (.Name "isinstance" p) [a, .Name y q] [] pos) (eIsi k fa) := by
  obtain ⟨t, pt, s⟩ := ha
  refine ⟨_, pe_callB call_isi hg hm (by decide +kernel) (pa_cons pt (pa_cons (pe_bltn (v := .ty k.nm) hgT hmT hvT rfl hnT hdT) pa_nil) he) (he := he) (hpl := hpl), fun Z Fz ρ env st σ H Q rl hh o => ?_⟩
  refine s Z Fz ρ env st σ H _ rl hh (o.seq.mono fun x s1 F1 r1 H1 _ ex1 rl1 o1 x' rx => ?_)
  split at o1
  · rename_i j ej
    exact ⟨x', .ty k.nm, _, _, j.isa k, rfl, .ty _, kd_ok rl1 rx ej, kit_ty (kitB_ok j k hk), o1.here rl1 _ (by rw [Rep])⟩
  · exact o1.elim
end
end Lq
end
section
set_option Elab.async false
set_option linter.all false
set_option maxRecDepth 100000
namespace Lq
open PySem PySem.Spec PyProof.Rows L2
inductive Sk where
  | L | T
def Sk.sq : Sk → Heap → Addr → Array Value → Prop
  | .L, h, l, its => h.IsList l its
  | .T, h, l, its => h.IsTuple l its
def Sk.it : Sk → Heap → Addr → Addr → Nat → Prop
  | .L, h, i, l, n => h.IsListIter i l n
  | .T, h, i, l, n => h.IsTupleIter i l n
def Sk.Sq (K : PySem.W.Frag) : Sk → Hp → Addr → List V → Prop
  | .L, H, a, xs => SqL K H a xs
  | .T, H, a, xs => SqT K H a xs
theorem Sk.items {k : Sk} {X : Cx} {pins : List (Addr × Obj)} {σ : L2.St} {H : Hp} {s : Shared} {a : Addr} {xs : List V} (I : L2.Inv X pins σ H s) (q : k.Sq X.K H a xs) : ∃ its : List Value, Vals xs its ∧ k.sq s.heap a its.toArray ∧ a < s.heap.objs.size := by
  cases k with
  | L =>
    obtain ⟨its, rv, p, _⟩ := I.list q
    exact ⟨its, rv, p.isList, p.lt⟩
  | T =>
    obtain ⟨its, rv, p, _⟩ := I.tuple q
    obtain ⟨o, ho, _⟩ := id p
    exact ⟨its, rv, p, Heap.lt_size ho⟩
theorem Sk.inj {k : Sk} {X : Cx} {pins : List (Addr × Obj)} {σ : L2.St} {H : Hp} {s : Shared} {a : Addr} {xs ys : List V} (I : L2.Inv X pins σ H s) (q : k.Sq X.K H a xs) (q' : k.Sq X.K H a ys) : xs = ys := by
  cases k with
  | L => exact I.list_inj q q'
  | T => exact I.tuple_inj q q'
section
variable (k1 k2 : Sk) (h : Heap) (l1 l2 : Addr)
end
end Lq
end
section
set_option Elab.async false
set_option linter.all false
set_option maxRecDepth 10000
namespace Lq
open PySem PySem.Spec PyProof.Rows L2
def spF (K : PySem.W.Frag) (mg : Str → Option Value) (n : Nat) (f : Fn) : Sp := fun vs H Q E => vs.length = n ∧ ∃ Z Fz ρ st ps, Rel K mg Z Fz ρ st H ∧ RepL K mg Fz ρ ps vs ∧
  Out K mg Z E Fz ρ (f ps st) (fun v _ Fz' ρ' H' => ∀ v', Rep K mg Fz' ρ' v v' → Q v' H')
structure Cl (P : Program) (w : World) (K : PySem.W.Frag) (mg : Str → Option Value) (base : Heap) (k : Nat) (x : Str) (n : Nat) (f : Fn) : Prop where
  ex : ∃ (a : Addr) (fd : FuncData) (ps : List Str), mg x = some (.ref a) ∧ PySem.W.keepIn K (.ref a) = true ∧ Binds K fd ps [] ∧ FnOk P w K mg base (L2.CX P w) k a fd ps (spF K mg n f)
def eCall (n : Nat) (f : Fn) (a : XL) : XE := fun env st => (a env st).bind fun xs s => if xs.length = n then f xs s else .no
def env0 (m : Nat) (ps : List PV) : Ev := ps.map some ++ List.replicate (m - ps.length) none
def ret (r : R Fl) : R PV := r.bind fun fl s => match fl with
  | .rt v => .ok v s
  | .nx _ => .ok .non s
  | _ => .no
def runF (m : Nat) (g : XS) : Fn := fun ps st => ret (g (env0 m ps) st)
section
variable {X : Cx} {E : XK} {a b e : Expr} {es : List Expr} {p pos : Pos} {fa fb : XE} {x : Str}
theorem s_call {n : Nat} {f : Fn} {t : TA} {fl : XL} (s : SA X.K X.mg E t fl) : SE X.K X.mg E (tCall (spF X.K X.mg n f) [] E t) (eCall n f fl) := fun Z Fz ρ env st σ H Q rl hh o => by
  refine s Z Fz ρ env st σ H _ rl hh (o.seq.mono fun xs s1 F1 r1 H1 _ ex1 rl1 o1 xs' rx => ?_)
  split at o1
  · rename_i hn
    rw [List.append_nil]
    exact ⟨by rw [← rx.len]; exact hn, Z, F1, r1, s1, xs, rl1, rx, o1⟩
  · exact o1.elim
theorem je_call {k j n : Nat} {f : Fn} {fl : XL} (c : Cl X.prog X.w X.K X.mg X.base k x n f) (hr : Room j X.A) (hx : Passes (L2.CX X.prog X.w) X E) (ha : JA X E (e :: es) fl) (hk : k ≤ j := by decide) (hg : Gl X x := by rfl) (hdb : (x == ("__debug__" : Str)) = false := by decide)
    (he : starEach (e :: es) X.env = (false, eval e X.env) :: starEach es X.env := by rfl) (hpl : (backTo pos (starEach es X.env)).any (·.1) = false := by rfl) : JE X E (.Call (.Name x p) (e :: es) [] pos) (eCall n f fl) := by
  obtain ⟨a, fd, ps, hm, hkp, hb, F⟩ := c.ex
  obtain ⟨t, pt, st⟩ := ha
  exact ⟨_, pe_call F (hr.mono hk) hg hm hkp hb .nil hx pt hdb he hpl, s_call st⟩
end
theorem renv_start {K : PySem.W.Frag} {mg : Str → Option Value} {Fz : Hp} {ρ : List Addr} {ps : List PV} {vs : List V} (N : List Str) (h : RepL K mg Fz ρ ps vs) : REnv K mg Fz ρ (env0 N.length ps) (L2.start N vs) := by
  unfold env0 L2.start
  refine ⟨by simp [h.len], fun i p e => ?_⟩
  by_cases hi : i < ps.length
  · rw [List.getElem?_append_left (by simpa using hi), List.getElem?_map] at e
    rw [List.getElem?_append_left (by simpa [← h.len] using hi), List.getElem?_map]
    cases q : ps[i]? with
    | none => rw [q] at e; cases e
    | some z =>
      rw [q] at e
      cases e
      obtain ⟨v, e1, e2⟩ := h.get q
      exact ⟨v, by rw [e1]; rfl, e2⟩
  · rw [List.getElem?_append_right (by simpa using hi)] at e
    have := List.mem_of_getElem? e
    simp [List.mem_replicate] at this
theorem fn_body {P : Program} {w : World} {K : PySem.W.Frag} {mg : Str → Option Value} {base : Heap} {x qual : Str} {params : Arguments} {body : List Stmt} {scope : Scope} {f : Addr} {fd : FuncData} {N ps : List Str} {k : Nat} {g : XS}
    (F : FunD K x qual params body scope [] [] f fd) (S : FnScope N ps scope)
    (hJ : ∀ (cdv : Value) (A : Around) (outer : List Env) (s : Shared) (H : Hp) (E : XK), Room k (A.deeper (envOfC qual scope s.heap.objs.size f cdv)) →
      JSs (cxOf (L2.CX P w) P w K mg base N qual scope f cdv A outer s H E) E body g) : FnOk P w K mg base (L2.CX P w) (k + 1) f fd ps (spF K mg ps.length (runF N.length g)) := by
  refine F.ok S (fun vs H Q E h => h.1) (fun cdv A outer s H vs Q E hr h => ?_)
  obtain ⟨t, pt, st⟩ := hJ cdv A outer s H E hr
  obtain ⟨hl, Z, Fz, ρ, sto, pvs, rl, rp, o⟩ := h
  refine ⟨t, pt, st Z Fz ρ (env0 N.length pvs) sto _ H _ rl (renv_start N rp) ?_⟩
  have o2 : Out K mg Z E Fz ρ (ret (g (env0 N.length pvs) sto)) (fun v _ Fz' ρ' H' => ∀ v', Rep K mg Fz' ρ' v v' → Q v' H') := o
  unfold ret at o2
  refine o2.seq.mono fun fl s1 F1 r1 H1 _ ex1 rl1 o1 => ?_
  cases fl with
  | rt v => exact o1.here rl1
  | nx e => exact fun σ _ => o1.here rl1 _ (by rw [Rep])
  | bk e => exact o1.elim
  | ct e => exact o1.elim
theorem cl_of {P : Program} {w : World} {K : PySem.W.Frag} {mg : Str → Option Value} {base : Heap} {k n : Nat} {x qual : Str} {params : Arguments} {body : List Stmt} {scope : Scope} {f : Addr} {fd : FuncData} {ps : List Str} {fn : Fn}
    (F : FunD K x qual params body scope [] [] f fd) (hm : mg x = some (.ref f)) (hb : Binds K fd ps []) (ok : FnOk P w K mg base (L2.CX P w) k f fd ps (spF K mg n fn)) : Cl P w K mg base k x n fn :=
  ⟨f, fd, ps, hm, F.kp, hb, ok⟩
def noX {α : Type} (r : R α) : R α := match r with
  | .ok a s => .ok a s
  | _ => .no
theorem out_noX {α : Type} {K : PySem.W.Frag} {mg : Str → Option Value} {Z : Hp} {E E' : XK} {Fz : Hp} {ρ : List Addr} {r : R α} {P : α → Store → Hp → List Addr → Hp → Prop} (h : Out K mg Z E Fz ρ (noX r) P) : Out K mg Z E' Fz ρ r P := by
  cases r with
  | ok a s => exact h
  | ex c s => exact h.elim
  | no => exact h
theorem out_E0 {α : Type} {K : PySem.W.Frag} {mg : Str → Option Value} {Z : Hp} {E' : XK} {Fz : Hp} {ρ : List Addr} {r : R α} {P : α → Store → Hp → List Addr → Hp → Prop} (h : Out K mg Z E' Fz ρ (noX r) P) : ∃ a s, r = .ok a s := by
  cases r with
  | ok a s => exact ⟨a, s, rfl⟩
  | ex c s => exact h.elim
  | no => exact h.elim
def asV (st : Store) : PV → Option (List PV)
  | .lst xs => some xs
  | .tup xs => some xs
  | .scr ns => some (ns.map PV.int)
  | .own k => (match st[k]? with
    | some (.frz xs) => some xs
    | _ => none)
  | _ => none
def ItV (K : PySem.W.Frag) (mg : Str → Option Value) (J : It) (Z F0 : Hp) (r0 : List Addr) (xs : List PV) : Prop := ∀ Z' Fz ρ st H, Ext F0 r0 Fz ρ → Rel K mg Z' Fz ρ st H →
  (∀ (i : Nat) (x : PV), xs[i]? = some x → J.go i H ∧ ∀ v H', J.yld i H v H' → ∃ Fz', Ext Fz ρ Fz' ρ ∧ Rel K mg Z' Fz' ρ st H' ∧ Rep K mg Fz' ρ x v) ∧ J.stop xs.length H
def SI (K : PySem.W.Frag) (mg : Str → Option Value) (E : XK) (wi : TI) (g : XL) : Prop := ∀ Z Fz ρ env st σ H R, Rel K mg Z Fz ρ st H → REnv K mg Fz ρ env σ →
  Out K mg Z E Fz ρ (g env st) (fun xs _ Fz' ρ' H' => ∀ J, xs.length ≤ sizeLine → ItV K mg J Z Fz' ρ' xs → R J H') → wi σ H R
def JI (X : Cx) (E : XK) (tg iter : Expr) (g : XL) : Prop := ∃ wi, PI X tg iter wi ∧ SI X.K X.mg E wi g
def iVal (f : XE) : XL := fun env st => (f env st).bind fun p s => match asV s p with
  | some xs => .ok xs s
  | none => .no
section
variable {K : PySem.W.Frag} {mg : Str → Option Value} {Z Fz : Hp} {ρ : List Addr}
theorem itv_list {a : Addr} {vs : List V} {xs : List PV} (s : SqL K Fz a vs) (r : RepL K mg Fz ρ xs vs) : ItV K mg (Itl K a) Z Fz ρ xs := fun Z' F1 r1 st H ex rl => by
  have s1 : SqL K H a vs := sqL_mono rl.fz (sqL_mono ex.fz s)
  refine ⟨fun i x e => ?_, ⟨vs, s1, by rw [← r.len]; exact Nat.le_refl _⟩⟩
  obtain ⟨v, e1, rv⟩ := r.get e
  refine ⟨⟨vs, v, s1, e1⟩, fun v' H' y => ?_⟩
  obtain ⟨rfl, y⟩ := y
  have := y vs s1
  rw [e1] at this; cases this
  exact ⟨F1, Ext.refl, rl, rv.mono ex⟩
theorem itv_tup {a : Addr} {vs : List V} {xs : List PV} (s : SqT K Fz a vs) (r : RepL K mg Fz ρ xs vs) : ItV K mg (Itt K a) Z Fz ρ xs := fun Z' F1 r1 st H ex rl => by
  have s1 : SqT K H a vs := sqT_mono rl.fz (sqT_mono ex.fz s)
  refine ⟨fun i x e => ?_, ⟨vs, s1, by rw [← r.len]; exact Nat.le_refl _⟩⟩
  obtain ⟨v, e1, rv⟩ := r.get e
  refine ⟨⟨vs, v, s1, e1⟩, fun v' H' y => ?_⟩
  obtain ⟨rfl, y⟩ := y
  have := y vs s1
  rw [e1] at this; cases this
  exact ⟨F1, Ext.refl, rl, rv.mono ex⟩
theorem asV_ok {st : Store} {H : Hp} {p : PV} {v : V} {xs : List PV} (rl : Rel K mg Z Fz ρ st H) (h : Rep K mg Fz ρ p v) (e : asV st p = some xs) : ∃ a vs, v = .ref a ∧ (SqL K Fz a vs ∨ SqT K Fz a vs) ∧ xs.length ≤ sizeLine ∧ RepL K mg Fz ρ xs vs := by
  cases p with
  | lst ys =>
    cases e
    rw [Rep] at h
    obtain ⟨a, vs, h1, h2, h3, h4⟩ := h
    exact ⟨a, vs, h1, .inl (SqL.of h2), h3, h4⟩
  | tup ys =>
    cases e
    rw [Rep] at h
    obtain ⟨a, vs, h1, h2, h3, h4⟩ := h
    exact ⟨a, vs, h1, .inr h2, h3, h4⟩
  | scr ns =>
    cases e
    rw [Rep] at h
    obtain ⟨a, h1, h2, h3⟩ := h
    exact ⟨a, _, h1, .inl h2, by simpa using h3, RepL.ints ns⟩
  | own k =>
    rw [Rep] at h
    obtain ⟨a, h1, h2⟩ := h
    cases ek : st[k]? with
    | none => simp [asV, ek] at e
    | some c =>
      cases c with
      | frz ys =>
        have : ys = xs := by simpa [asV, ek] using e
        subst this
        obtain ⟨vs, q1, q2, q3⟩ := rl.cell k a _ h1 ek
        exact ⟨a, vs, h2, .inl (SqL.of q1), q2, q3⟩
      | _ => simp [asV, ek] at e
  | _ => cases e
end
section
variable {X : Cx} {E : XK} {a b e l tg : Expr} {es : List Expr} {p pos : Pos} {fa fb : XE} {x : Str}
theorem PI.or {w1 w2 : TI} (h1 : PI X tg l w1) (h2 : PI X tg l w2) : PI X tg l (fun σ H R => w1 σ H R ∨ w2 σ H R) :=
  ⟨fun pins s σ H R I h => h.elim (fun h => h1.run pins s σ H R I h) fun h => h2.run pins s σ H R I h⟩
theorem ji_seq (h : JE X E l fa) : JI X E tg l (iVal fa) := by
  obtain ⟨t, pt, s⟩ := h
  refine ⟨fun σ H R => t σ H fun x H1 => (∃ a, x = .ref a ∧ (∃ xs, SqL X.K H1 a xs) ∧ R (Itl X.K a) H1) ∨ (∃ a, x = .ref a ∧ (∃ xs, SqT X.K H1 a xs) ∧ R (Itt X.K a) H1), ⟨fun pins sh σ H R I h => ?_⟩, fun Z Fz ρ env st σ H R rl hh o => ?_⟩
  · -- from the value on, as a list or as a tuple
    refine thn (pt.run pins sh σ H _ I h) fun u s1 w => ?_
    obtain ⟨y, G, J1, ry, c⟩ := w
    have fresh : ∀ d, d ∈ [s1.heap.objs.size] → FpOk X pins G d := fun d hd => by
      rw [List.mem_singleton] at hd
      rw [hd]
      exact J1.fpOk Nat.le.refl (J1.hok.fresh Nat.le.refl)
    rcases c with ⟨d, rfl, ⟨ws, hw⟩, k⟩ | ⟨d, rfl, ⟨ws, hw⟩, k⟩
    · obtain rfl : u = Value.ref d := ry
      obtain ⟨its, _, hp, _⟩ := J1.list hw
      exact wpAny_pyIter_list hp.isList ⟨_, [s1.heap.objs.size], _, Itl X.K d, G, rfl,
        J1.kept (t' := s1.toks) (fun b o z => Heap.get?_push_of_some _ z), turn_list d _, ⟨_, Heap.get?_push_size _ rfl, rfl, rfl⟩, fresh, k⟩
    · obtain rfl : u = Value.ref d := ry
      obtain ⟨its, _, hp, _⟩ := J1.tuple hw
      exact wpAny_pyIter_tuple (t := d) (items := its.toArray) hp ⟨_, [s1.heap.objs.size], _, Itt X.K d, G, rfl,
        J1.kept (t' := s1.toks) (fun b o z => Heap.get?_push_of_some _ z), turn_tuple d _, ⟨_, Heap.get?_push_size _ rfl, rfl, rfl⟩, fresh, k⟩
  · refine s Z Fz ρ env st σ H _ rl hh (o.seq.mono fun x s1 F1 r1 H1 _ ex1 rl1 o1 x' rx => ?_)
    split at o1
    · rename_i xs es
      obtain ⟨a, vs, rfl, sq, hl, rr⟩ := asV_ok rl1 rx es
      rcases sq with sq | sq
      · exact .inl ⟨a, rfl, ⟨vs, sqL_mono rl1.fz sq⟩, o1.here rl1 _ hl (itv_list sq rr)⟩
      · exact .inr ⟨a, rfl, ⟨vs, sqT_mono rl1.fz sq⟩, o1.here rl1 _ hl (itv_tup sq rr)⟩
    · exact o1.elim
def rng (lo : Int) (n : Nat) : List PV := (List.range n).map fun (k : Nat) => PV.int (lo + (k : Int))
theorem itv_rng {K : PySem.W.Frag} {mg : Str → Option Value} {Z Fz : Hp} {ρ : List Addr} (lo : Int) (n : Nat) : ItV K mg (Itr lo n) Z Fz ρ (rng lo n) := fun Z' F1 r1 st H ex rl => by
  refine ⟨fun i x e => ?_, (show n ≤ (rng lo n).length by simp [rng])⟩
  unfold rng at e
  rw [List.getElem?_map] at e
  by_cases h : i < n
  · rw [List.getElem?_range h] at e
    cases e
    refine ⟨h, fun v H' y => ?_⟩
    obtain ⟨rfl, rfl⟩ := y
    exact ⟨F1, Ext.refl, rl, by rw [Rep]⟩
  · rw [List.getElem?_eq_none (by simpa using h)] at e; cases e
def okR (i : Int) : Bool := decide (-(2 ^ 62) ≤ i) && decide (i < 2 ^ 62)
def iRange1 (f : XL) : XL := fun env st => (f env st).bind fun vs s => match vs with
  | [.int j] => if okR j = true ∧ j.toNat ≤ sizeLine then .ok (rng 0 j.toNat) s else .no
  | _ => .no
def iRange2 (f : XL) : XL := fun env st => (f env st).bind fun vs s => match vs with
  | [.int i, .int j] => if okR i = true ∧ okR j = true ∧ (j - i).toNat ≤ sizeLine then .ok (rng i (j - i).toNat) s else .no
  | _ => .no
theorem ji_range1 {f : XL} (ha : JA X E [a] f) (hm : X.mg "range" = none) (hg : Gl X "range" := by rfl) (hs : starEach [a] X.env = [(false, eval a X.env)] := by rfl) : JI X E tg (.Call (.Name "range" p) [a] [] pos) (iRange1 f) := by
  obtain ⟨t, pt, s⟩ := ha
  refine ⟨_, pi_range1 hg hm pt hs, fun Z Fz ρ env st σ H R rl hh o => ?_⟩
  refine s Z Fz ρ env st σ H _ rl hh (o.seq.mono fun xs s1 F1 r1 H1 hq ex1 rl1 o1 xs' rx => ?_)
  clear hq
  split at o1
  · rename_i j
    obtain ⟨v, rfl, rv⟩ := rep1 rx
    rw [Rep] at rv
    subst rv
    split at o1
    · rename_i c
      have c1 := c.1
      unfold okR at c1
      rw [Bool.and_eq_true, decide_eq_true_eq, decide_eq_true_eq] at c1
      exact ⟨j, rfl, c1.1, c1.2, o1.here rl1 _ (by simpa [rng] using c.2) (itv_rng 0 _)⟩
    · exact o1.elim
  · exact o1.elim
theorem rep2 {K : PySem.W.Frag} {mg : Str → Option Value} {Fz : Hp} {ρ : List Addr} {p q : PV} {vs : List V} (h : RepL K mg Fz ρ [p, q] vs) : ∃ v u, vs = [v, u] ∧ Rep K mg Fz ρ p v ∧ Rep K mg Fz ρ q u := by
  rw [RepL] at h
  obtain ⟨v, r, rfl, h1, h2⟩ := h
  obtain ⟨u, rfl, h3⟩ := rep1 h2
  exact ⟨v, u, rfl, h1, h3⟩
theorem ji_range2 {f : XL} (ha : JA X E [a, b] f) (hm : X.mg "range" = none) (hg : Gl X "range" := by rfl) (hs : starEach [a, b] X.env = [(false, eval a X.env), (false, eval b X.env)] := by rfl) (hs2 : starEach [b] X.env = [(false, eval b X.env)] := by rfl) :
    JI X E tg (.Call (.Name "range" p) [a, b] [] pos) (iRange2 f) := by
  obtain ⟨t, pt, s⟩ := ha
  refine ⟨_, pi_range2 hg hm pt hs hs2, fun Z Fz ρ env st σ H R rl hh o => ?_⟩
  refine s Z Fz ρ env st σ H _ rl hh (o.seq.mono fun xs s1 F1 r1 H1 hq ex1 rl1 o1 xs' rx => ?_)
  clear hq
  split at o1
  · rename_i i j
    obtain ⟨v, u, rfl, rv, ru⟩ := rep2 rx
    rw [Rep] at rv ru
    subst rv ru
    split at o1
    · rename_i c
      have c1 := c.1
      have c2 := c.2.1
      unfold okR at c1 c2
      rw [Bool.and_eq_true, decide_eq_true_eq, decide_eq_true_eq] at c1 c2
      exact ⟨i, j, rfl, ⟨c1.1, c1.2, c2.1, c2.2⟩, o1.here rl1 _ (by simpa [rng] using c.2.2) (itv_rng i _)⟩
    · exact o1.elim
  · exact o1.elim
def pairs : List PV → List PV → List PV
  | x :: xs, y :: ys => .tup [x, y] :: pairs xs ys
  | _, _ => []
theorem rep_pair {K : PySem.W.Frag} {mg : Str → Option Value} {Z Fz : Hp} {ρ : List Addr} {st : Store} {H : Hp} {T : Addr} {p q : PV} {x y : V} (rl : Rel K mg Z Fz ρ st H) (hT : H T = none) (hp : Rep K mg Fz ρ p x) (hq : Rep K mg Fz ρ q y) :
    ∃ Fz', Ext Fz ρ Fz' ρ ∧ Rel K mg Z Fz' ρ st (upd H T (.tup [x, y])) ∧ Rep K mg Fz' ρ (.tup [p, q]) (.ref T) := by
  obtain ⟨rl2, ex2⟩ := rl.frozen hT (.tup [x, y])
  exact ⟨_, ex2, rl2, by rw [Rep]; exact ⟨T, _, rfl, SqT.of upd_same, (by decide : 2 ≤ sizeLine), RepL.cons (hp.mono ex2) (RepL.cons (hq.mono ex2) RepL.nil)⟩⟩
def asVL (st : Store) : PV → Option (List PV)
  | .tup _ => none
  | p => asV st p
def nums (xs : List PV) : List PV := pairs (rng 0 xs.length) xs
def signs (z : Str) : List PV := z.cps.toList.map fun c => PV.str ⟨#[c]⟩
end
end Lq
end
section
set_option Elab.async false
set_option linter.all false
set_option maxRecDepth 10000
namespace Lq
open PySem PySem.Spec PyProof.Rows L2
section
variable (K : PySem.W.Frag) (mg : Str → Option Value) (E : XK)
def tOf (f : XE) : TE := fun σ H Q => ∃ Z Fz ρ env st, Rel K mg Z Fz ρ st H ∧ REnv K mg Fz ρ env σ ∧ Out K mg Z E Fz ρ (f env st) (fun v _ Fz' ρ' H' => ∀ v', Rep K mg Fz' ρ' v v' → Q v' H')
def tOfT (f : Ev → Store → R Bool) : TT := fun σ H Q => ∃ Z Fz ρ env st, Rel K mg Z Fz ρ st H ∧ REnv K mg Fz ρ env σ ∧ Out K mg Z E Fz ρ (f env st) (fun b _ _ _ H' => Q b H')
def tOfI (g : XL) : TI := fun σ H R => ∃ Z Fz ρ env st, Rel K mg Z Fz ρ st H ∧ REnv K mg Fz ρ env σ ∧ Out K mg Z E Fz ρ (g env st) (fun xs _ Fz' ρ' H' => ∀ J, xs.length ≤ sizeLine → ItV K mg J Z Fz' ρ' xs → R J H')
def SGv (vs : List Nat) (t : TG) (f : PV → Ev → Store → R Ev) : Prop := ∀ Z Fz ρ env st σ H p v Q, Rel K mg Z Fz ρ st H → REnv K mg Fz ρ env σ → Rep K mg Fz ρ p v →
  Out K mg Z E Fz ρ (f p env st) (fun e _ Fz' ρ' H' => ∀ σ' : L2.St, REnv K mg Fz' ρ' e σ' → (σ'.length = σ.length ∧ ∀ j : Nat, j ∉ vs → σ'[j]? = σ[j]?) → Q σ' H') → t v σ H Q
def tOfG (vs : List Nat) (f : PV → Ev → Store → R Ev) : TG := fun v σ H Q => ∃ Z Fz ρ env st p, Rel K mg Z Fz ρ st H ∧ REnv K mg Fz ρ env σ ∧ Rep K mg Fz ρ p v ∧
  Out K mg Z E Fz ρ (f p env st) (fun e _ Fz' ρ' H' => ∀ σ' : L2.St, REnv K mg Fz' ρ' e σ' → (σ'.length = σ.length ∧ ∀ j : Nat, j ∉ vs → σ'[j]? = σ[j]?) → Q σ' H')
end
def JGv (X : Cx) (E : XK) (vs : List Nat) (e : Expr) (f : PV → Ev → Store → R Ev) : Prop := ∃ t, PG X e t ∧ SGv X.K X.mg E vs t f
def JTs (X : Cx) (E : XK) (es : List Expr) (f : Ev → Store → R Bool) : Prop := ∃ t, PTs X es t ∧ STt X.K X.mg E t f
section
variable {X : Cx} {E : XK}
theorem JE.pe {e : Expr} {f : XE} (h : JE X E e f) : PE X e (tOf X.K X.mg E f) := by
  obtain ⟨t, p, s⟩ := h
  exact ⟨fun pins sh σ H Q I ⟨Z, Fz, ρ, env, st, rl, re, o⟩ => p.run pins sh σ H Q I (s Z Fz ρ env st σ H Q rl re o)⟩
theorem JTs.pe {e : List Expr} {f} (h : JTs X E e f) : PTs X e (tOfT X.K X.mg E f) := by
  obtain ⟨t, p, s⟩ := h
  exact ⟨fun pins sh σ H Q I ⟨Z, Fz, ρ, env, st, rl, re, o⟩ => p.run pins sh σ H Q I (s Z Fz ρ env st σ H Q rl re o)⟩
theorem JI.pe {tg e : Expr} {f} (h : JI X E tg e f) : PI X tg e (tOfI X.K X.mg E f) := by
  obtain ⟨t, p, s⟩ := h
  exact ⟨fun pins sh σ H Q I ⟨Z, Fz, ρ, env, st, rl, re, o⟩ => p.run pins sh σ H Q I (s Z Fz ρ env st σ H Q rl re o)⟩
theorem JGv.pe {e : Expr} {vs : List Nat} {f} (h : JGv X E vs e f) : PG X e (tOfG X.K X.mg E vs f) := by
  obtain ⟨t, p, s⟩ := h
  exact ⟨fun pins sh σ H v u Q I r ⟨Z, Fz, ρ, env, st, q, rl, re, rv, o⟩ => p.run pins sh σ H v u Q I r (s Z Fz ρ env st σ H q v Q rl re rv o)⟩
theorem jts_nil : JTs X E [] (fun _ st => .ok true st) := ⟨_, pts_nil, fun Z Fz ρ env st σ H Q rl hh o => o.here rl⟩
theorem jts_one {c : Expr} {f} (h : JT X E c f) : JTs X E [c] f := let ⟨t, p, s⟩ := h; ⟨t, pts_one p, s⟩
end
section
variable {K : PySem.W.Frag} {mg : Str → Option Value} {Fz : Hp} {ρ : List Addr}
theorem REnv.set {env : Ev} {σ : L2.St} {p : PV} {v : V} (h : REnv K mg Fz ρ env σ) (r : Rep K mg Fz ρ p v) (i : Nat) : REnv K mg Fz ρ (env.set i (some p)) (σ.set i (some v)) := by
  refine ⟨by simp [h.1], fun j q e => ?_⟩
  by_cases hj : i = j
  · subst hj
    have hi : i < env.length := by
      have := (List.getElem?_eq_some_iff.mp e).1
      simpa using this
    rw [List.getElem?_set_self hi] at e
    cases e
    exact ⟨v, by rw [List.getElem?_set_self (by rw [← h.1]; exact hi)], r⟩
  · rw [List.getElem?_set_ne hj] at e ⊢
    exact h.2 j q e
def wipeE (env : Ev) : List Nat → Ev
  | [] => env
  | v :: vs => (wipeE env vs).set v none
theorem REnv.wipe {env : Ev} {σ : L2.St} (h : REnv K mg Fz ρ env σ) : ∀ vs : List Nat, REnv K mg Fz ρ (wipeE env vs) (L2.wipe σ vs)
  | [] => h
  | v :: vs => by
    obtain ⟨h1, h2⟩ := REnv.wipe h vs
    unfold wipeE L2.wipe
    refine ⟨by simp [h1], fun j q e => ?_⟩
    by_cases hj : v = j
    · subst hj
      have hi : v < (wipeE env vs).length := by
        have := (List.getElem?_eq_some_iff.mp e).1
        simpa using this
      rw [List.getElem?_set_self hi] at e
      cases e
    · rw [List.getElem?_set_ne hj] at e ⊢
      exact h2 j q e
end
theorem wipe_get (σ : L2.St) : ∀ (vs : List Nat) (j : Nat), (L2.wipe σ vs)[j]? = if j ∈ vs then (if j < σ.length then some none else none) else σ[j]?
  | [], j => by simp [L2.wipe]
  | v :: vs, j => by
    unfold L2.wipe
    by_cases hv : v = j
    · subst hv
      by_cases hl : v < σ.length
      · rw [List.getElem?_set_self (by rw [L2.wipe_length]; exact hl)]; simp [hl]
      · rw [List.getElem?_eq_none (by simp [L2.wipe_length]; omega)]; simp [hl]
    · rw [List.getElem?_set_ne hv, wipe_get σ vs j]
      have : (j ∈ v :: vs) ↔ j ∈ vs := by simp [Ne.symm hv]
      simp only [this]
theorem wipe_eq {σ σ' : L2.St} {vs : List Nat} (hl : σ'.length = σ.length) (h : ∀ j, j ∉ vs → σ'[j]? = (L2.wipe σ vs)[j]?) : L2.wipe σ' vs = L2.wipe σ vs := by
  refine List.ext_getElem? fun j => ?_
  rw [wipe_get, wipe_get, hl]
  by_cases hj : j ∈ vs
  · simp [hj]
  · simp only [hj, if_false]
    rw [h j hj, wipe_get]; simp [hj]
def gNm (i : Nat) : PV → Ev → Store → R Ev := fun p env st => .ok (env.set i (some p)) st
def gTp (n : Nat) (gs : List PV → Ev → Store → R Ev) : PV → Ev → Store → R Ev := fun p env st => match p with
  | .tup xs => if xs.length = n then gs xs env st else .no
  | _ => .no
def gsNil : List PV → Ev → Store → R Ev := fun xs env st => match xs with
  | [] => .ok env st
  | _ => .no
def gsCons (g : PV → Ev → Store → R Ev) (gs : List PV → Ev → Store → R Ev) : List PV → Ev → Store → R Ev := fun xs env st => match xs with
  | x :: r => (g x env st).bind fun e s => gs r e s
  | [] => .no
def SGsv (K : PySem.W.Frag) (mg : Str → Option Value) (E : XK) (vs : List Nat) (t : TGs) (f : List PV → Ev → Store → R Ev) : Prop := ∀ Z Fz ρ env st σ H p v Q, Rel K mg Z Fz ρ st H → REnv K mg Fz ρ env σ → RepL K mg Fz ρ p v →
  Out K mg Z E Fz ρ (f p env st) (fun e _ Fz' ρ' H' => ∀ σ' : L2.St, REnv K mg Fz' ρ' e σ' → (σ'.length = σ.length ∧ ∀ j : Nat, j ∉ vs → σ'[j]? = σ[j]?) → Q σ' H') → t v σ H Q
def JGsv (X : Cx) (E : XK) (vs : List Nat) (es : List Expr) (f : List PV → Ev → Store → R Ev) : Prop := ∃ t, PGs X es t ∧ SGsv X.K X.mg E vs t f
section
variable {X : Cx} {E : XK} {e : Expr} {es : List Expr} {pos : Pos} {vs ws : List Nat}
theorem jg_name {i : Nat} {x : Str} (hN : X.N.Nodup) (hv : i ∈ vs := by decide) (hi : X.N[i]? = some x := by rfl) (hx : Loc X.env.scope x := by first | exact .inl rfl | exact .inr rfl)
    (hf : X.fn x = true ∨ X.env.scope.names.lookup x = some .local := by first | exact .inl rfl | exact .inr rfl | assumption) : JGv X E vs (.Name x pos) (gNm i) :=
  ⟨_, pg_name hN hi hx hf, fun Z Fz ρ env st σ H p v Q rl re rv o => o.here rl _ (re.set rv i) ⟨by simp, fun j hj => List.getElem?_set_ne fun z => hj (by rw [← z]; exact hv)⟩⟩
theorem jgs_nil : JGsv X E vs [] gsNil := ⟨_, pgs_nil, fun Z Fz ρ env st σ H p v Q rl re rv o => by
  cases p with
  | nil =>
    rw [RepL] at rv
    subst rv
    exact ⟨rfl, o.here rl σ re ⟨rfl, fun _ _ => rfl⟩⟩
  | cons => exact o.elim⟩
theorem jgs_cons {f fs} (h1 : JGv X E vs e f) (h2 : JGsv X E vs es fs) (hs : (assignEach (e :: es) X.env).map (·.2) = assign e X.env :: (assignEach es X.env).map (·.2) := by rfl) : JGsv X E vs (e :: es) (gsCons f fs) := by
  obtain ⟨t, p, s⟩ := h1
  obtain ⟨t', p', s'⟩ := h2
  refine ⟨_, pgs_cons p p' hs, fun Z Fz ρ env st σ H q v Q rl re rv o => ?_⟩
  cases q with
  | nil => exact o.elim
  | cons x r =>
    rw [RepL] at rv
    obtain ⟨v1, vr, rfl, r1, r2⟩ := rv
    refine ⟨v1, vr, rfl, s Z Fz ρ env st σ H x v1 _ rl re r1 ?_⟩
    have o' : Out X.K X.mg Z E Fz ρ ((f x env st).bind fun e s => fs r e s) _ := o
    refine o'.seq.mono fun e1 s1 F1 rr1 H1 _ ex1 rl1 o1 σ1 re1 k1 => ?_
    exact s' Z F1 rr1 e1 s1 σ1 H1 r vr Q rl1 re1 (r2.mono ex1) (o1.mono fun e2 s2 F2 rr2 H2 _ ex2 rl2 o2 σ2 re2 k2 => o2 σ2 re2 ⟨k2.1.trans k1.1, fun j hj => (k2.2 j hj).trans (k1.2 j hj)⟩)
theorem jg_tup {k : Nat} {fs} {n : Nat} (hc : X.calm = true) (h : JGsv X E vs es fs) (hn : (assignEach es X.env).length = n := by rfl) (hst : (assignEach es X.env).findIdx? (·.1) = none := by rfl) : JGv X E vs (.Tuple es k pos) (gTp n fs) := by
  obtain ⟨t, p, s⟩ := h
  refine ⟨_, pg_tup hc p hn hst, fun Z Fz ρ env st σ H q v Q rl re rv o => ?_⟩
  cases q with
  | tup xs =>
    rw [Rep] at rv
    obtain ⟨a, ws, rfl, r1, r2, r3⟩ := rv
    have o' : Out X.K X.mg Z E Fz ρ (if xs.length = n then fs xs env st else .no) _ := o
    split at o'
    · rename_i hl
      exact ⟨a, ws, rfl, sqT_mono rl.fz r1, by rw [← r3.len]; exact hl, s Z Fz ρ env st σ H xs ws Q rl re r3 o'⟩
    · exact o'.elim
  | _ => exact o.elim
def compV (ft : PV → Ev → Store → R Ev) (tt : Ev → Store → R Bool) (fe : XE) (env : Ev) : List PV → Store → R (List PV)
  | [], st => .ok [] st
  | x :: xs, st => (ft x env st).bind fun e s1 => (tt e s1).bind fun b s2 =>
    if b = true then (fe e s2).bind fun y s3 => (compV ft tt fe env xs s3).bind fun ys s4 => .ok (y :: ys) s4 else compV ft tt fe env xs s2
def fComp (g : XL) (ft : PV → Ev → Store → R Ev) (tt : Ev → Store → R Bool) (fe : XE) (vs : List Nat) : XL := fun env st => (g env st).bind fun xs s => noX (compV ft tt fe (wipeE env vs) xs s)
theorem bind_ok {α β : Type} {r : R α} {k : α → Store → R β} {b : β} {s : Store} (h : r.bind k = .ok b s) : ∃ a s1, r = .ok a s1 ∧ k a s1 = .ok b s := by
  cases r with
  | ok a s1 => exact ⟨a, s1, rfl, h⟩
  | ex c s1 => cases h
  | no => cases h
theorem zwrite {K : PySem.W.Frag} {mg : Str → Option Value} {Z Fz : Hp} {ρ : List Addr} {st : Store} {H : Hp} {D : Addr} {o o' : HO} (rl : Rel K mg (upd Z D o) Fz ρ st H) : Rel K mg (upd Z D o') Fz ρ st (upd H D o') := by
  obtain ⟨d1, d2, d3⟩ := rl.zf D o upd_same
  refine ⟨fun a u e => ?_, fun a u e => ?_, rl.len, fun k a x e1 e2 => ?_, rl.apart, rl.nd⟩
  · by_cases h : a = D
    · subst h; rw [upd_same] at e ⊢; exact ⟨e, d2, d3⟩
    · rw [upd_ne h] at e ⊢
      exact rl.zf a u (by rw [upd_ne h]; exact e)
  · rw [upd_ne (fun z => by subst z; rw [d2] at e; cases e)]; exact rl.fz _ _ e
  · exact (rl.cell k a x e1 e2).mono Ext.refl fun u q => by rw [upd_ne (fun z => by subst z; exact d3 (List.mem_of_getElem? e1))]; exact q
theorem znew {K : PySem.W.Frag} {mg : Str → Option Value} {Z Fz : Hp} {ρ : List Addr} {st : Store} {H : Hp} {D : Addr} (rl : Rel K mg Z Fz ρ st H) (hD : H D = none) (o : HO) : Rel K mg (upd Z D o) Fz ρ st (upd H D o) := by
  obtain ⟨d2, d3⟩ := rl.free hD
  refine ⟨fun a u e => ?_, fun a u e => ?_, rl.len, fun k a x e1 e2 => ?_, rl.apart, rl.nd⟩
  · by_cases h : a = D
    · subst h; rw [upd_same] at e ⊢; exact ⟨e, d2, d3⟩
    · rw [upd_ne h] at e ⊢
      exact rl.zf a u e
  · rw [upd_ne (fun z => by subst z; rw [d2] at e; cases e)]; exact rl.fz _ _ e
  · exact (rl.cell k a x e1 e2).mono Ext.refl fun u q => by rw [upd_ne (fun z => by subst z; exact d3 (List.mem_of_getElem? e1))]; exact q
def off (H : Hp) (D : Addr) : Hp := fun b => if b = D then none else H b
theorem off_same {H : Hp} {D : Addr} : off H D D = none := by unfold off; rw [if_pos rfl]
theorem off_ne {H : Hp} {D b : Addr} (h : b ≠ D) : off H D b = H b := by unfold off; rw [if_neg h]
theorem off_upd {H : Hp} {D : Addr} {o : HO} (h : H D = some o) : upd (off H D) D o = H := by
  funext b
  by_cases hb : b = D
  · subst hb; rw [upd_same, h]
  · rw [upd_ne hb, off_ne hb]
theorem zoff {K : PySem.W.Frag} {mg : Str → Option Value} {Z Fz : Hp} {ρ : List Addr} {st : Store} {H : Hp} {D : Addr} {o : HO} (rl : Rel K mg (upd Z D o) Fz ρ st H) (hZ : Z D = none) : Rel K mg Z Fz ρ st (off H D) := by
  obtain ⟨d1, d2, d3⟩ := rl.zf D o upd_same
  refine ⟨fun a u e => ?_, fun a u e => ?_, rl.len, fun k a x e1 e2 => ?_, rl.apart, rl.nd⟩
  · have h : a ≠ D := fun z => by subst z; rw [hZ] at e; cases e
    rw [off_ne h]
    exact rl.zf a u (by rw [upd_ne h]; exact e)
  · rw [off_ne (fun z => by subst z; rw [d2] at e; cases e)]; exact rl.fz _ _ e
  · exact (rl.cell k a x e1 e2).mono Ext.refl fun u q => by rw [off_ne (fun z => by subst z; exact d3 (List.mem_of_getElem? e1))]; exact q
section
variable {K : PySem.W.Frag} {mg : Str → Option Value}
theorem lc_read {E : XK} {wi : TI} {g : XL} {ft : PV → Ev → Store → R Ev} {tt : Ev → Store → R Bool} {fe : XE} {vs : List Nat} (sw : SI K mg E wi g) :
    SF K mg E (tLc wi (tOfG K mg E0 vs ft) (tOfT K mg E0 tt) (tOf K mg E0 fe) vs) (fComp g ft tt fe vs) := fun Z Fz ρ env st σ H Q rl re o => by
  refine sw Z Fz ρ env st σ H _ rl re (o.seq.mono fun xs s1 F1 r1 H1 _ ex1 rl1 o1 J hlen it D hD => ?_)
  obtain ⟨ys, sf, ec⟩ := out_E0 o1
  have o2 : Out K mg Z E F1 r1 (noX (compV ft tt fe (wipeE env vs) xs s1)) _ := o1
  rw [ec] at o2
  have hZD : Z D = none := by
    cases e : Z D with
    | none => rfl
    | some u => rw [(rl1.zf D u e).1] at hD; cases hD
  refine ⟨fun i m H => m = xs.length - i ∧ i ≤ xs.length ∧ ∃ (acc : List PV) (accv : List V) (F : Hp) (r : List Addr) (s : Store) (rest : List PV),
    Ext F1 r1 F r ∧ Rel K mg (upd Z D (.lst accv)) F r s H ∧ RepL K mg F r acc accv ∧ acc.length ≤ i ∧ compV ft tt fe (wipeE env vs) (xs.drop i) s = .ok rest sf ∧ acc ++ rest = ys, ?_, ?_⟩
  · exact ⟨_, rfl, Nat.zero_le _, [], [], F1, r1, s1, ys, Ext.refl, znew rl1 hD _, RepL.nil, Nat.le_refl _, by simpa using ec, rfl⟩
  · rintro i m H2 ⟨rfl, hi, acc, accv, F, r, s, rest, ex, rl2, ra, hacc, eq, hy⟩
    obtain ⟨ig, is⟩ := it (upd Z D (.lst accv)) F r s H2 ex rl2
    by_cases hlt : i < xs.length
    · right
      have ed : xs.drop i = xs[i] :: xs.drop (i + 1) := List.drop_eq_getElem_cons hlt
      obtain ⟨go, yl⟩ := ig i xs[i] (by simp [hlt])
      refine ⟨go, fun H' => ∃ (acc : List PV) (accv : List V) (F : Hp) (r : List Addr) (s : Store) (rest : List PV),
        Ext F1 r1 F r ∧ Rel K mg (upd Z D (.lst accv)) F r s H' ∧ RepL K mg F r acc accv ∧ acc.length ≤ i + 1 ∧ compV ft tt fe (wipeE env vs) (xs.drop (i + 1)) s = .ok rest sf ∧ acc ++ rest = ys,
        fun H' h => ⟨xs.length - (i + 1), by omega, rfl, hlt, h⟩, fun x H' y => ?_⟩
      obtain ⟨F3, ex3, rl3, rx⟩ := yl x H' y
      rw [ed] at eq
      unfold compV at eq
      obtain ⟨e1, t1, q1, eq⟩ := bind_ok eq
      obtain ⟨b, t2, q2, eq⟩ := bind_ok eq
      refine ⟨_, F3, r, wipeE env vs, s, xs[i], rl3, ((re.mono ex1).mono (ex.trans ex3)).wipe vs, rx, ?_⟩
      rw [q1]
      intro F4 r4 H4 ex4 rl4 σ4 re4 k4
      have hl4 : σ4.length = σ.length := by rw [k4.1, L2.wipe_length]
      refine ⟨wipe_eq hl4 k4.2, _, F4, r4, e1, t1, rl4, re4, ?_⟩
      rw [q2]
      intro F5 r5 H5 ex5 rl5
      cases b with
      | true =>
        rw [if_pos rfl] at eq ⊢
        obtain ⟨y', t3, q3, eq⟩ := bind_ok eq
        obtain ⟨zs, t4, q4, eq⟩ := bind_ok eq
        cases eq
        refine ⟨_, F5, r5, e1, t2, rl5, re4.mono ex5, ?_⟩
        rw [q3]
        intro F6 r6 H6 ex6 rl6 v6 rv6
        refine ⟨accv, (rl6.zf D _ upd_same).1, ?_, acc ++ [y'], accv ++ [v6], F6, r6, t3, zs, ?_, zwrite rl6, ?_, ?_, q4, ?_⟩
        · have : acc.length = accv.length := ra.len
          rw [← this]; omega
        · exact ex.trans (ex3.trans (ex4.trans (ex5.trans ex6)))
        · exact (ra.mono (ex3.trans (ex4.trans (ex5.trans ex6)))).app (RepL.cons rv6 RepL.nil)
        · simp; omega
        · rw [← hy]; simp
      | false =>
        rw [if_neg Bool.false_ne_true] at eq ⊢
        exact ⟨acc, accv, F5, r5, t2, rest, ex.trans (ex3.trans (ex4.trans ex5)), rl5, ra.mono (ex3.trans (ex4.trans ex5)), by omega, eq, hy⟩
    · left
      have hi' : i = xs.length := by omega
      subst hi'
      refine ⟨is, ?_⟩
      rw [List.drop_length] at eq
      cases eq
      rw [List.append_nil] at hy
      subst hy
      obtain ⟨d1, d2, d3⟩ := rl2.zf D _ upd_same
      have z := o2 F r (off H2 D) ex (zoff rl2 hZD) D accv off_same (by omega) ra
      rw [off_upd d1] at z
      exact z
end
abbrev Blk (X : Cx) (scope : Scope) (p : Cx → Prop) : Prop := ∀ (s : Shared) (H : Hp) (C : Addr) (cl : List (Str × Addr)) (fp : List Addr), p (X.blk s H scope (compEnvC scope cl C X.env) fp)
variable {elt tg iter tg1 iter1 : Expr} {ifs ifs1 : List Expr} {scope : Scope} {own : List (Str × Nat)} {g g1 : XL} {ft ft1 : PV → Ev → Store → R Ev} {tt tt1 : Ev → Store → R Bool} {fe : XE}
theorem jf_lc (hc : X.calm = true) (hN : X.N.Nodup) (ok : BlkOk X.N X.env.scope scope own) (hi : JI X E tg iter g)
    (hg : Blk X scope fun Y => JGv Y E0 (own.map (·.2)) tg ft) (ht : Blk X scope fun Y => JTs Y E0 ifs tt) (he : Blk X scope fun Y => JE Y E0 elt fe)
    (hs : ∀ x, foldedSetIterable iter X.env x = pure x := by intro _; rfl) : JF X E (.ListComp elt [⟨tg, iter, ifs, 0⟩] scope pos) (fComp g ft tt fe (own.map (·.2))) := by
  obtain ⟨wi, pw, sw⟩ := hi
  exact ⟨_, pe_lc hc hN pw ok (fun s H C cl fp => (hg s H C cl fp).pe) (fun s H C cl fp => (ht s H C cl fp).pe) (fun s H C cl fp => (he s H C cl fp).pe) hs, lc_read sw⟩
end
end Lq
end
section
set_option Elab.async false
set_option linter.all false
set_option maxRecDepth 10000
namespace Lq
open PySem PySem.Spec PyProof.Rows L2
def sNil : XS := fun env st => .ok (.nx env) st
def sSeq (a b : XS) : XS := fun env st => (a env st).bind fun fl s => match fl with
  | .nx e => b e s
  | fl => .ok fl s
def sSet (i : Nat) (f : XE) : XS := fun env st => (f env st).bind fun v s => .ok (.nx (env.set i (some v))) s
def sAsg (f : XE) (g : PV → Ev → Store → R Ev) : XS := fun env st => (f env st).bind fun v s => (g v env s).bind fun e s2 => .ok (.nx e) s2
def sPar (i j : Nat) (f : XL) : XS := fun env st => (f env st).bind fun vs s => match vs with
  | [v, w] => .ok (.nx ((env.set i (some v)).set j (some w))) s
  | _ => .no
def sDrop (f : XE) : XS := fun env st => (f env st).bind fun _ s => .ok (.nx env) s
def sRet (f : XE) : XS := fun env st => (f env st).bind fun v s => .ok (.rt v) s
def sIf (c : Ev → Store → R Bool) (a b : XS) : XS := fun env st => (c env st).bind fun k s => if k = true then a env s else b env s
def loopV (ft : PV → Ev → Store → R Ev) (body : XS) : List PV → Ev → Store → R Fl
  | [], env, st => .ok (.nx env) st
  | x :: xs, env, st => (ft x env st).bind fun e s1 => (body e s1).bind fun fl s2 => match fl with
    | .nx e2 => loopV ft body xs e2 s2
    | .ct e2 => loopV ft body xs e2 s2
    | .bk e2 => .ok (.nx e2) s2
    | .rt v => .ok (.rt v) s2
def sFor (g : XL) (ft : PV → Ev → Store → R Ev) (body : XS) : XS := fun env st => (g env st).bind fun xs s => loopV ft body xs env s
section
variable {X : Cx} {E : XK} {a b e tg iter : Expr} {es : List Expr} {p pos : Pos} {fa fb : XE} {st : Stmt} {sts : List Stmt} {A B : XS}
theorem jss_nil : JSs X E [] sNil := ⟨_, pss_nil, fun Z Fz ρ env st σ H D rl re o => o.here rl σ re⟩
theorem ss_seq {t u : TS} (h1 : SS X.K X.mg E t A) (h2 : SS X.K X.mg E u B) : SS X.K X.mg E (tSeq t u) (sSeq A B) := fun Z Fz ρ env st σ H D rl re o => by
  refine h1 Z Fz ρ env st σ H _ rl re (o.seq.mono fun fl s1 F1 r1 H1 _ ex1 rl1 o1 => ?_)
  cases fl with
  | nx e => exact fun σ1 re1 => h2 Z F1 r1 e s1 σ1 H1 D rl1 re1 o1
  | rt v => exact o1.here rl1
  | bk e => exact o1.here rl1
  | ct e => exact o1.here rl1
theorem jss_cons (h1 : JS X E st A) (h2 : JSs X E sts B) : JSs X E (st :: sts) (sSeq A B) := by
  obtain ⟨t, p, s⟩ := h1
  obtain ⟨t', p', s'⟩ := h2
  exact ⟨_, pss_cons p p', ss_seq s s'⟩
theorem jss_one (h : JS X E st A) : JSs X E [st] A := let ⟨t, p, s⟩ := h; ⟨t, pss_one p, s⟩
theorem ss_set {te : TE} {f : XE} {i : Nat} (s : SE X.K X.mg E te f) : SS X.K X.mg E (tAsg te (gName i)) (sSet i f) := fun Z Fz ρ env st σ H D rl re o =>
  s Z Fz ρ env st σ H _ rl re (o.seq.mono fun v s1 F1 r1 H1 _ ex1 rl1 o1 v' rv => o1.here rl1 _ ((re.mono ex1).set rv i))
theorem js_set (i : Nat) {x : Str} {pos' : Pos} (hN : X.N.Nodup) (he : JE X E e fa) (hs : swapsWith e (some (.Name x pos')) pos.line X.env = pure false := by rfl) (hi : X.N[i]? = some x := by rfl) (hx : Loc X.env.scope x := by first | exact .inl rfl | exact .inr rfl)
    (hf : X.fn x = true ∨ X.env.scope.names.lookup x = some .local := by first | exact .inl rfl | exact .inr rfl | assumption) : JS X E (.Assign [.Name x pos'] e pos) (sSet i fa) := by
  obtain ⟨t, p, s⟩ := he
  exact ⟨_, ps_set hN hi hx p hs hf, ss_set s⟩
theorem js_asg {f : PV → Ev → Store → R Ev} {vs : List Nat} (he : JE X E e fa) (hg : JGv X E vs tg f) (hs : swapsWithSole [tg] e pos.line X.env = pure false := by rfl) (hw : swappedStores [tg] e X.env = pure none := by rfl)
    (h1 : (assignEach [tg] X.env).map (·.2) = [assign tg X.env] := by rfl) : JS X E (.Assign [tg] e pos) (sAsg fa f) := by
  obtain ⟨t, p, s⟩ := he
  obtain ⟨t', p', s'⟩ := hg
  refine ⟨_, ps_asg p p' hs hw h1, fun Z Fz ρ env st σ H D rl re o => ?_⟩
  refine s Z Fz ρ env st σ H _ rl re (o.seq.mono fun v s1 F1 r1 H1 _ ex1 rl1 o1 v' rv => ?_)
  exact s' Z F1 r1 env s1 σ H1 v v' _ rl1 (re.mono ex1) rv (o1.seq.mono fun e2 s2 F2 r2 H2 _ ex2 rl2 o2 σ2 re2 _ => o2.here rl2 σ2 re2)
theorem js_par {i j : Nat} {x y : Str} {f : XL} {px py pt : Pos} {kt k2 pt2} (hc : X.calm = true) (hN : X.N.Nodup) (ha : JA X E [a, b] f) (hi : X.N[i]? = some x := by rfl) (hj : X.N[j]? = some y := by rfl) (hij : i ≠ j := by decide)
    (hx : X.env.scope.names.lookup x = some .local := by rfl) (hy : X.env.scope.names.lookup y = some .local := by rfl)
    (hw : swappedStores [.Tuple [.Name x px, .Name y py] kt pt] (.Tuple [a, b] k2 pt2) X.env = pure (some [x, y]) := by rfl)
    (hs : swapsWithSole [.Tuple [.Name x px, .Name y py] kt pt] (.Tuple [a, b] k2 pt2) pos.line X.env = pure false := by rfl) :
    JS X E (.Assign [.Tuple [.Name x px, .Name y py] kt pt] (.Tuple [a, b] k2 pt2) pos) (sPar i j f) := by
  obtain ⟨t, p, s⟩ := ha
  refine ⟨_, ps_par hc hN hi hj hij hx hy p hw hs, fun Z Fz ρ env st σ H D rl re o => ?_⟩
  refine s Z Fz ρ env st σ H _ rl re (o.seq.mono fun vs s1 F1 r1 H1 hq ex1 rl1 o1 vs' rv => ?_)
  clear hq
  split at o1
  · obtain ⟨v, u, rfl, r1, r2⟩ := rep2 rv
    exact ⟨v, u, rfl, o1.here rl1 _ (((re.mono ex1).set r1 i).set r2 j)⟩
  · exact o1.elim
theorem js_expr (he : JE X E e fa) (hs : swapsWith e none pos.line X.env = pure false := by rfl) : JS X E (.Expr e pos) (sDrop fa) := by
  obtain ⟨t, p, s⟩ := he
  exact ⟨_, ps_expr p hs, fun Z Fz ρ env st σ H D rl re o => s Z Fz ρ env st σ H _ rl re (o.seq.mono fun v s1 F1 r1 H1 _ ex1 rl1 o1 v' rv => o1.here rl1 σ (re.mono ex1))⟩
theorem js_ret (he : JE X E e fa) : JS X E (.Return (some e) pos) (sRet fa) := by
  obtain ⟨t, p, s⟩ := he
  exact ⟨_, ps_ret p, fun Z Fz ρ env st σ H D rl re o => s Z Fz ρ env st σ H _ rl re (o.seq.mono fun v s1 F1 r1 H1 _ ex1 rl1 o1 v' rv => o1.here rl1 v' rv)⟩
theorem js_if {c : Expr} {x y : List Stmt} {fc} (hc : JT X E c fc) (ha : JSs X E x A) (hb : JSs X E y B) : JS X E (.If c x y pos) (sIf fc A B) := by
  obtain ⟨t, p, s⟩ := hc
  obtain ⟨ta, pa, sa⟩ := ha
  obtain ⟨tb, pb, sb⟩ := hb
  refine ⟨_, ps_if p pa pb, fun Z Fz ρ env st σ H D rl re o => ?_⟩
  refine s Z Fz ρ env st σ H _ rl re (o.seq.mono fun k s1 F1 r1 H1 _ ex1 rl1 o1 => ?_)
  cases k with
  | true => exact sa Z F1 r1 env s1 σ H1 D rl1 (re.mono ex1) o1
  | false => exact sb Z F1 r1 env s1 σ H1 D rl1 (re.mono ex1) o1
theorem js_for {g : XL} {ft : PV → Ev → Store → R Ev} {vs : List Nat} {body : List Stmt} (hp : PassesOwn (model X.prog X.w) X.A X.env X.xe) (hc : X.calm = true) (hi : JI X E tg iter g) (hg : JGv X E vs tg ft) (hb : JSs X E body B)
    (hs : ∀ x, foldedSetIterable iter X.env x = pure x := by intro _; rfl) : JS X E (.For tg iter body [] pos) (sFor g ft B) := by
  obtain ⟨wi, pw, sw⟩ := hi
  obtain ⟨t, p, s⟩ := hg
  obtain ⟨tb, pb, sb⟩ := hb
  refine ⟨_, ps_for hp hc pw p pb hs, fun Z Fz ρ env st σ H D rl re o => ?_⟩
  refine sw Z Fz ρ env st σ H _ rl re (o.seq.mono fun xs s1 F1 r1 H1 _ ex1 rl1 o1 J hlen it => ?_)
  refine ⟨fun i m σ H => m = xs.length - i ∧ i ≤ xs.length ∧ ∃ F r e s, Ext F1 r1 F r ∧ Rel X.K X.mg Z F r s H ∧ REnv X.K X.mg F r e σ ∧ Out X.K X.mg Z E F r (loopV ft B (xs.drop i) e s) (fun fl _ F' r' H' => FlP X.K X.mg D fl F' r' H'), ?_, ?_⟩
  · exact ⟨_, rfl, Nat.zero_le _, F1, r1, env, s1, Ext.refl, rl1, re.mono ex1, by simpa using o1⟩
  · rintro i m σ2 H2 ⟨rfl, hi, F, r, e2, s2, ex2, rl2, re2, o2⟩
    obtain ⟨ig, is⟩ := it Z F r s2 H2 ex2 rl2
    by_cases hlt : i < xs.length
    · right
      have ed : xs.drop i = xs[i] :: xs.drop (i + 1) := List.drop_eq_getElem_cons hlt
      rw [ed] at o2
      unfold loopV at o2
      obtain ⟨go, yl⟩ := ig i xs[i] (by simp [hlt])
      refine ⟨go, fun σ H => ∃ F r e s, Ext F1 r1 F r ∧ Rel X.K X.mg Z F r s H ∧ REnv X.K X.mg F r e σ ∧ Out X.K X.mg Z E F r (loopV ft B (xs.drop (i + 1)) e s) (fun fl _ F' r' H' => FlP X.K X.mg D fl F' r' H'),
        fun σ' H' h => ⟨xs.length - (i + 1), by omega, rfl, hlt, h⟩, fun x H' y => ?_⟩
      obtain ⟨F3, ex3, rl3, rx⟩ := yl x H' y
      refine s Z F3 r e2 s2 σ2 H' xs[i] x _ rl3 (re2.mono ex3) rx ((o2.on ex3).seq.mono fun e4 s4 F4 r4 H4 _ ex4 rl4 o4 σ4 re4 _ => ?_)
      refine sb Z F4 r4 e4 s4 σ4 H4 _ rl4 re4 (o4.seq.mono fun fl s5 F5 r5 H5 _ ex5 rl5 o5 => ?_)
      have exA : Ext F1 r1 F5 r5 := ex2.trans (ex3.trans (ex4.trans ex5))
      cases fl with
      | nx e6 => exact fun σ6 re6 => ⟨F5, r5, e6, s5, exA, rl5, re6, o5⟩
      | ct e6 => exact fun σ6 re6 => ⟨F5, r5, e6, s5, exA, rl5, re6, o5⟩
      | bk e6 => exact fun σ6 re6 => o5.here rl5 σ6 re6
      | rt v => exact o5.here rl5
    · left
      have hi' : i = xs.length := by omega
      subst hi'
      rw [List.drop_length] at o2
      exact ⟨is, o2.here rl2 σ2 re2⟩
def gSubL (fo fi : XE) : PV → Ev → Store → R Ev := fun p env st => (fo env st).bind fun o s1 => (fi env s1).bind fun i s2 => match o, i with
  | .own k, .int j => (match s2[k]? with
    | some (.lst xs) => (match ixN xs.length j with
      | some m => .ok env (s2.set k (.lst (xs.set m p)))
      | none => .no)
    | _ => .no)
  | _, _ => .no
theorem jg_sub {o i : Expr} {fo fi : XE} {vs : List Nat} (ho : JE X E o fo) (hi : JE X E i fi) (ha : ∀ v, assign (.Subscript o i pos) X.env v = (do
      let ov ← holding [v] (eval o X.env)
      let iv ← holding [v, ov] (eval i X.env)
      standAt pos
      holding [v, ov, iv] (setItem ov iv v)
      release [v, ov, iv] []) := by intro _; rfl) : JGv X E vs (.Subscript o i pos) (gSubL fo fi) := by
  obtain ⟨t, p, s⟩ := ho
  obtain ⟨t', p', s'⟩ := hi
  refine ⟨_, pg_sub p p' set_list ha, fun Z Fz ρ env st σ H q v Q rl re rv o => ?_⟩
  refine s Z Fz ρ env st σ H _ rl re (o.seq.mono fun x s1 F1 r1 H1 hq1 ex1 rl1 o1 x' rx => ?_)
  refine s' Z F1 r1 env s1 σ H1 _ rl1 (re.mono ex1) (o1.seq.mono fun y s2 F2 r2 H2 hq2 ex2 rl2 o2 y' ry => ?_)
  clear hq1 hq2
  split at o2
  · rename_i k j
    split at o2
    · rename_i xs ek
      split at o2
      · rename_i m em
        replace rx := rx.mono ex2
        rw [Rep] at rx
        rw [Rep] at ry
        obtain ⟨a, ea, rfl⟩ := rx
        obtain ⟨ws, h1, h2, h3⟩ := rl2.cell k a _ ea ek
        refine ⟨a, ws, j, m, rfl, ry, h1, by rw [← h3.len]; exact em, ?_⟩
        have hc : CellOk X.K X.mg F2 r2 (upd H2 a (.lst (ws.set m v))) a (.lst (xs.set m q)) := ⟨_, upd_same, by simpa using h2, h3.set (rv.mono (ex1.trans ex2)) m⟩
        exact o2 F2 r2 _ Ext.refl (rl2.write ea ek rfl rfl hc) σ ((re.mono ex1).mono ex2) ⟨rfl, fun _ _ => rfl⟩
      · exact o2.elim
    · exact o2.elim
  · exact o2.elim
end
end Lq
end
section
set_option Elab.async false
set_option linter.all false
set_option maxRecDepth 10000
namespace Lq
open PySem PySem.Spec PyProof.Rows L2
section
variable {K : PySem.W.Frag} {mg : Str → Option Value} {Z Fz : Hp} {ρ : List Addr}
def putP (f : Str) (v : PV) : List (Str × PV) → List (Str × PV)
  | [] => [(f, v)]
  | (g, x) :: r => if g = f then (g, v) :: r else (g, x) :: putP f v r
end
def eFld (x f : Str) (fo : XE) : XE := fun env st => (fo env st).bind fun v s => match v with
  | .own k => (match s[k]? with
    | some (.ins y fs) => if y = x then (match fs.lookup f with
      | some p => .ok p s
      | none => .no) else .no
    | _ => .no)
  | _ => .no
def sFldS (x f : Str) (fo fv : XE) : XS := fun env st => (fv env st).bind fun p s1 => (fo env s1).bind fun v s => match v with
  | .own k => (match s[k]? with
    | some (.ins y fs) => if y = x ∧ fs.length < 900 then .ok (.nx env) (s.set k (.ins y (putP f p fs))) else .no
    | _ => .no)
  | _ => .no
section
variable {X : Cx} {E : XK} {a b e o : Expr} {es : List Expr} {p pos apos cpos : Pos} {fa fb fo : XE} {fs : List Str} {x f m : Str}
def eMeth (x m : Str) (n : Nat) (f : Fn) (fo : XE) (fl : XL) : XE := fun env st => (fo env st).bind fun v s => match v with
  | .own k => (match s[k]? with
    | some (.ins y fs) => if y = x ∧ fs.lookup m = none then (fl env s).bind fun vs s2 => if vs.length + 1 = n then f (.own k :: vs) s2 else .no else .no
    | _ => .no)
  | _ => .no
def eMake (x : Str) (n : Nat) (f : Fn) (fl : XL) : XE := fun env st => (fl env st).bind fun vs s => if vs.length + 1 = n then (f (.own s.length :: vs) (s ++ [.ins x []])).bind fun v s2 => (match v with
  | .non => .ok (.own s.length) s2
  | _ => .no) else .no
structure ExcF (X : Cx) (x : Str) : Prop where
  ex : ∃ C, X.mg x = some (.ref C) ∧ PySem.W.excIn X.K C [.type "ValueError", .type "Exception", .type "BaseException", .type "object"] "ValueError.__new__" = true ∧ PySem.W.keepIn X.K (.ref C) = true ∧ Raises X (.ref C)
def sRaise (x : Str) : XS := fun _ st => .ex x st
theorem js_raise {z : Str} {j : Nat} {p2 pos2 : Pos} (hc : X.calm = true) (tk : L2.Takes X (fun cls d _ H => E cls d H)) (c : ExcF X x) (hg : Gl X x := by rfl) (hdb : (x == ("__debug__" : Str)) = false := by decide) :
    JS X E (.Raise (some (.Call (.Name x p) [.Constant (.str z) j p2] [] pos)) none pos2) (sRaise x) := by
  obtain ⟨C, gC, q, kC, r⟩ := c.ex
  refine ⟨_, ps_raise hc tk (pmk_own PySem.F.excBase_ValueError q gC kC r hg hdb), fun Z Fz ρ env st σ H D rl re o => ?_⟩
  obtain ⟨C', e1, e2⟩ := o Fz ρ H Ext.refl rl
  rw [gC] at e1; cases e1
  exact e2
end
end Lq
end
section
set_option Elab.async false
set_option linter.all false
set_option maxRecDepth 10000
namespace Lq
open PySem PySem.Spec PyProof.Rows L2
section
variable {X : Cx} {E : XK} {a b e o tg iter : Expr} {es : List Expr} {p pos apos cpos : Pos} {fa fb fo : XE} {fl : XL} {x f m : Str}
theorem own_list {K : PySem.W.Frag} {mg : Str → Option Value} {Z Fz : Hp} {ρ : List Addr} {st : Store} {H : Hp} {k : Nat} {v : V} {xs : List PV} (rl : Rel K mg Z Fz ρ st H) (r : Rep K mg Fz ρ (.own k) v) (e : st[k]? = some (.lst xs)) :
    ∃ d vs, v = .ref d ∧ ρ[k]? = some d ∧ H d = some (.lst vs) ∧ xs.length ≤ sizeLine ∧ RepL K mg Fz ρ xs vs := by
  rw [Rep] at r
  obtain ⟨d, ed, rfl⟩ := r
  obtain ⟨vs, h1, h2, h3⟩ := rl.cell k d _ ed e
  exact ⟨d, vs, rfl, ed, h1, h2, h3⟩
def eLm (go : List PV → List PV → Store → Option (PV × List PV)) (fo : XE) (fl : XL) : XE := fun env st => (fo env st).bind fun v s => match v with
  | .own k => (match s[k]? with
    | some (.lst _) => (fl env s).bind fun ys s2 => (match s2[k]? with
      | some (.lst xs) => (match go xs ys s2 with
        | some (z, xs') => .ok z (s2.set k (.lst xs'))
        | none => .no)
      | _ => .no)
    | _ => .no)
  | _ => .no
theorem s_lm {id : String} {go r} {to : TE} {t : TA} (hr : ∀ (Z Fz : Hp) (ρ : List Addr) (st : Store) (H : Hp) (d : Addr) (k : Nat) (vs : List V) (xs ys : List PV) (ws : List V) (z : PV) (xs' : List PV) (Q : VK), Rel X.K X.mg Z Fz ρ st H → ρ[k]? = some d → st[k]? = some (.lst xs) → H d = some (.lst vs) → RepL X.K X.mg Fz ρ xs vs → RepL X.K X.mg Fz ρ ys ws → go xs ys st = some (z, xs') →
    (∀ z' vs', Rep X.K X.mg Fz ρ z z' → RepL X.K X.mg Fz ρ xs' vs' → xs'.length ≤ sizeLine → Q z' (upd H d (.lst vs'))) → xs.length ≤ sizeLine → r (.ref d) ws H Q)
    (so : SE X.K X.mg E to fo) (sa : SA X.K X.mg E t fl) : SE X.K X.mg E (tBM X.K "list" r to t) (eLm go fo fl) := fun Z Fz ρ env st σ H Q rl re o => by
  refine so Z Fz ρ env st σ H _ rl re (o.seq.mono fun v s1 F1 r1 H1 hq ex1 rl1 o1 v' rv => ?_)
  clear hq
  split at o1
  · rename_i k
    split at o1
    · rename_i xs0 ek0
      obtain ⟨d0, vs0, e0, _, h0, _, _⟩ := own_list rl1 rv ek0
      subst e0
      refine ⟨.inl ⟨rfl, vs0, SqL.of h0⟩, sa Z F1 r1 env s1 σ H1 _ rl1 (re.mono ex1) (o1.seq.mono fun ys s2 F2 r2 H2 hq2 ex2 rl2 o2 ys' ry => ?_)⟩
      clear hq2
      split at o2
      · rename_i xs ek
        split at o2
        · rename_i z xs' eg
          obtain ⟨d, vs, e1, ed, hd, hl, rr⟩ := own_list rl2 (rv.mono ex2) ek
          cases e1
          refine hr Z F2 r2 s2 H2 d0 k vs xs ys ys' z xs' Q rl2 ed ek hd rr ry eg (fun z' vs' rz rvs hls => ?_) hl
          exact o2 F2 r2 _ Ext.refl (rl2.write (c := .lst xs') ed ek rfl rfl ⟨vs', upd_same, hls, rvs⟩) z' rz
        · exact o2.elim
      · exact o2.elim
    · exact o1.elim
  · exact o1.elim
def goApp : List PV → List PV → Store → Option (PV × List PV) := fun xs ys _ => match ys with
  | [y] => if xs.length < sizeLine then some (.non, xs ++ [y]) else none
  | _ => none
theorem je_append (ho : JE X E o fo) (ha : JA X E [e] fl) (hbase : attributeBase o "append" X.env (eval o X.env) = eval o X.env := by rfl)
    (hfew : ((backTo cpos (starEach [e] X.env)).all (fun x => !x.1) && (backToKw cpos (keywordEach [] X.env)).all (fun x => x.1.isSome)
      && decide (([e] : List Expr).length + ([] : List Keyword).length + (if ([] : List Keyword).isEmpty then 0 else 1) < 30)) = true := by rfl)
    (hline : (apos.endLine == cpos.line) = true := by rfl) (hs : starEach [e] X.env = (false, eval e X.env) :: starEach [] X.env := by rfl) (hplain : (backTo cpos (starEach [] X.env)).any (·.1) = false := by rfl) :
    JE X E (.Call (.Attribute o "append" apos) [e] [] cpos) (eLm goApp fo fl) := by
  obtain ⟨t, pt, s⟩ := ho
  obtain ⟨ta, pa, sa⟩ := ha
  refine ⟨_, pe_bm PySem.F.plainAttrs_list PySem.F.slot_list_append PySem.F.type_list_append mt_append pt pa hbase hfew hline hs hplain, s_lm (id := "list.append") (fun Z Fz ρ st H d k vs xs ys ws z xs' Q rl ed ek hd rr ry eg q hl => ?_) s sa⟩
  unfold goApp at eg
  split at eg
  · split at eg
    · rename_i hlt
      cases eg
      obtain ⟨v, rfl, rv⟩ := rep1 ry
      exact ⟨d, vs, v, rfl, rfl, hd, by rw [← rr.len]; exact hlt, q _ _ (by rw [Rep]) (rr.app (RepL.cons rv RepL.nil)) (by simp; omega)⟩
    · cases eg
  · cases eg
def goExt : List PV → List PV → Store → Option (PV × List PV) := fun xs ys st => match ys with
  | [y] => (match asM st y with
    | some zs => if xs.length + zs.length ≤ sizeLine then some (.non, xs ++ zs) else none
    | none => none)
  | _ => none
theorem je_extend (ho : JE X E o fo) (ha : JA X E [e] fl) (hbase : attributeBase o "extend" X.env (eval o X.env) = eval o X.env := by rfl)
    (hfew : ((backTo cpos (starEach [e] X.env)).all (fun x => !x.1) && (backToKw cpos (keywordEach [] X.env)).all (fun x => x.1.isSome)
      && decide (([e] : List Expr).length + ([] : List Keyword).length + (if ([] : List Keyword).isEmpty then 0 else 1) < 30)) = true := by rfl)
    (hline : (apos.endLine == cpos.line) = true := by rfl) (hs : starEach [e] X.env = (false, eval e X.env) :: starEach [] X.env := by rfl) (hplain : (backTo cpos (starEach [] X.env)).any (·.1) = false := by rfl) :
    JE X E (.Call (.Attribute o "extend" apos) [e] [] cpos) (eLm goExt fo fl) := by
  obtain ⟨t, pt, s⟩ := ho
  obtain ⟨ta, pa, sa⟩ := ha
  refine ⟨_, pe_bm PySem.F.plainAttrs_list PySem.F.slot_list_extend PySem.F.type_list_extend mt_extend pt pa hbase hfew hline hs hplain, s_lm (id := "list.extend") (fun Z Fz ρ st H d k vs xs ys ws z xs' Q rl ed ek hd rr ry eg q hl => ?_) s sa⟩
  unfold goExt at eg
  split at eg
  · split at eg
    · rename_i y zs ez
      split at eg
      · rename_i hlt
        cases eg
        obtain ⟨v, rfl, rv⟩ := rep1 ry
        obtain ⟨b, us, rfl, hb, hlb, rb⟩ := asM_ok rl rv ez
        exact ⟨d, b, vs, us, rfl, rfl, hd, hb, by rw [← rr.len, ← rb.len]; exact hlt, q _ _ (by rw [Rep]) (rr.app rb) (by simpa using hlt)⟩
      · cases eg
    · cases eg
  · cases eg
def ePop (fo : XE) : XE := fun env st => (fo env st).bind fun v s => match v with
  | .own k => (match s[k]? with
    | some (.lst xs) => (match xs[xs.length - 1]? with
      | some y => .ok y (s.set k (.lst xs.dropLast))
      | none => .no)
    | _ => .no)
  | _ => .no
theorem RepL.dropLast {K : PySem.W.Frag} {mg : Str → Option Value} {Fz : Hp} {ρ : List Addr} {ps : List PV} {vs : List V} (h : RepL K mg Fz ρ ps vs) : RepL K mg Fz ρ ps.dropLast vs.dropLast := by
  rw [List.dropLast_eq_take, List.dropLast_eq_take, h.len]
  exact h.take _
def eFrz (fo : XE) : XE := fun env st => (fo env st).bind fun v s => match v with
  | .own k => (match s[k]? with
    | some (.lst xs) => .ok (.lst xs) (s.set k (.frz xs))
    | some (.frz xs) => .ok (.lst xs) s
    | _ => .no)
  | .lst xs => .ok (.lst xs) s
  | .tup xs => .ok (.tup xs) s
  | _ => .no
theorem je_frz (ho : JE X E o fo) : JE X E o (eFrz fo) := by
  obtain ⟨t, pt, s⟩ := ho
  refine ⟨t, pt, fun Z Fz ρ env st σ H Q rl re o => ?_⟩
  refine s Z Fz ρ env st σ H _ rl re (o.seq.mono fun v s1 F1 r1 H1 hq ex1 rl1 o1 v' rv => ?_)
  clear hq
  split at o1
  · rename_i k
    split at o1
    · rename_i xs ek
      rw [Rep] at rv
      obtain ⟨d, ed, rfl⟩ := rv
      obtain ⟨vs, hd, rr, hl, rl2, ex2⟩ := rl1.freeze ed ek
      exact o1 _ _ _ ex2 rl2 _ (by rw [Rep]; exact ⟨d, vs, rfl, upd_same, hl, rr.mono ex2⟩)
    · rename_i xs ek
      rw [Rep] at rv
      obtain ⟨d, ed, rfl⟩ := rv
      obtain ⟨vs, q1, q2, q3⟩ := rl1.cell k d _ ed ek
      exact o1.here rl1 _ (by rw [Rep]; exact ⟨d, vs, rfl, q1, q2, q3⟩)
    · exact o1.elim
  · exact o1.here rl1 _ rv
  · exact o1.here rl1 _ rv
  · exact o1.elim
def eSm (go : Str → PV → Store → Option PV) (fo fe : XE) : XE := fun env st => (fo env st).bind fun v s => match v with
  | .str z => (fe env s).bind fun y s2 => (match go z y s2 with
    | some w => .ok w s2
    | none => .no)
  | _ => .no
end
end Lq
end
section
set_option Elab.async false
set_option linter.all false
set_option maxRecDepth 10000
namespace Lq
open PySem PySem.Spec PyProof.Rows L2
theorem xcO_ok {P : Program} {w : World} {H : Hp} {h : Heap} {a : Addr} {cls : Value} {oe : Obj} {vs : Array Value} (e : h.get? a = some oe) (z : Zc cls none oe) (d : oe.data = .fields vs) : ObjOk P w H h a (XcO cls a) :=
  ⟨⟨oe, vs, e, z, d⟩, ⟨oe, e⟩, fun h1 h2 ⟨o, ws, q1, q2, q3⟩ k => ⟨o, ws, k o q1, q2, q3⟩⟩
section
variable {X : Cx} {pins : List (Addr × Obj)} {σ : L2.St} {H : Hp} {s : Shared}
theorem adopt {u : HO} {a : Addr} {o : Obj} {vs : Array Value} (I : Inv X pins σ H s) (na : H a = none) (ho : s.heap.get? a = some o) (hd : o.data = .fields vs) (n0 : X.s_0.heap.get? a = none) (nL : a ≠ X.env.locals)
    (np : ∀ p ∈ X.pn ++ pins, p.1 ≠ a) (ok : ObjOk X.prog X.w (upd H a u) s.heap a u) : Inv X pins σ (upd H a u) s where
  ok := I.ok
  os := I.os
  bare := I.bare
  base := ⟨I.base.keep, I.base.slot, fun b ob q n hx => by
      rw [upd_ne (fun z => by subst z; rw [n0] at q; cases q)]
      exact I.base.free b ob q n hx, I.base.there,
    fun b xs q => by rw [upd_ne (ne_of_none (I.base.tups b xs q) na)]; exact I.base.tups b xs q,
    fun b ob v q => by rw [upd_ne (ne_of_none (I.base.frzs b ob v q) na)]; exact I.base.frzs b ob v q,
    fun b ps q => by
      obtain ⟨more, z⟩ := I.base.tbls b ps q
      exact ⟨more, by rw [upd_ne (ne_of_none z na)]; exact z⟩⟩
  loc := I.loc
  cell := I.cell
  free := by rw [upd_ne (fun z => nL z.symm)]; exact I.free
  freeC := fun x c e => by
    obtain ⟨v, oc, q1, q2⟩ := I.cell x c e
    rw [upd_ne (fun z => by subst z; rw [ho] at q1; cases q1; rw [hd] at q2; cases q2)]
    exact I.freeC x c e
  pin := fun p hp => by
    obtain ⟨z1, z2, z3⟩ := I.pin p hp
    exact ⟨z1, by rw [upd_ne (np p hp)]; exact z2, z3⟩
  hok := fun b v q => by
    by_cases hb : b = a
    · subst hb; rw [upd_same] at q; cases q; exact ok
    · rw [upd_ne hb] at q
      exact (I.hok b v q).stay (fun _ _ _ z => z) (fun c z => by rw [upd_ne (ne_of_none z na)]; exact z) fun c xs z => by rw [upd_ne (ne_of_none z na)]; exact z
  len := I.len
end
def wTrack (K : PySem.W.Frag) (c : Value) (i j : Nat) (D : Ends) : WX := fun cls d σ H => d = none ∧ PySem.W.exmOne K cls c = some true ∧
  ∀ a, H a = none → D.nx ((((σ.set i (some (.ref a))).set j (some (.ref a))).set i none)) (upd H a (XcO cls a))
section
variable {X : Cx} {x n y : Str} {c : Value} {i j : Nat} {body : List Stmt} {np pos pos' py pn2 pa : Pos} {tb : WX → TS}
theorem ps_try_track (hs : X.stack = X.env :: X.outer) (hf : X.env.frame = some X.env.locals) (hex : X.ex = []) (hN : X.N.Nodup) (hi : X.N[i]? = some n) (hj : X.N[j]? = some y) (hln : X.env.kindOf n = some .local) (hly : X.env.kindOf y = some .local) (hc : Names X x c)
    (hb : ∀ (W : WX) (q : List (Addr × Obj)) (xe : Value → Shared → Prop), L2.Takes (X.tr q xe) W → PassesOwn (model X.prog X.w) X.A X.env xe → PSs (X.tr q xe) body (tb W))
    (hsw : ∀ a q, PSs (X.suite a q) [.Assign [.Name y py] (.Name n pn2) pa] (tAsg (tVar i) (gName j))) :
    PS X (.Try body [.ExceptHandler (some (.Name x np)) (some n) [.Assign [.Name y py] (.Name n pn2) pa] pos'] [] [] pos) (fun D σ H => tb (wTrack X.K c i j D) D σ H) := by
  refine ⟨fun pins s σ H D I hyp => ?_⟩
  have good := I.ok
  have frm : X.A.frames = some (X.env :: X.outer) := by rw [good.frames, hs]
  refine wpAny_Try_except (wpAny_mono ((hb (wTrack X.K c i j D) (X.pn ++ pins) _ ?taken PassesOwn.looking).run [] s σ H D (I.toTry _) hyp) (fun fl s1 sp => ?_) fun e s1 z => z)
  case taken =>
    rintro u t0 ⟨e, B, sB, pb, τ, G, cls, d, rfl, I0, grnd, up0, sky, nG, eos, abr, rfl, mat, want⟩
    have I1 : Inv X pins τ G sB := I0.ofTry good
    rw [show X.stack = X.env :: X.outer from hs] at sky
    refine Sky.land Zc.steady frm hf sky fun hA flA upA => ?_
    have I2 : Inv X pins τ G { t0 with heap := hA } := I1.landed grnd flA.1 (up0.trans upA) eos abr
    obtain ⟨oA, fA, gA, zA, dA⟩ := flA.there
    have off : e ∉ frs (X.env :: X.outer) := fun hm => by
      obtain ⟨_, o', g', nf⟩ := flA.2.2.1.mem hm
      rw [gA] at g'; cases g'
      exact nf _ dA
    have offL : e ≠ X.env.locals := fun z => off (List.mem_filterMap.mpr ⟨X.env, .head _, by rw [hf, z]⟩)
    have offF : e ∉ X.fs := fun hm => by
      obtain ⟨v, hv, q⟩ := List.mem_filterMap.mp hm
      exact off (List.mem_filterMap.mpr ⟨v, .tail _ hv, q⟩)
    have newB : B.get? e = none := flA.2.1
    have newI : sB.heap.get? e = none := by
      cases q : sB.heap.get? e with
      | none => rfl
      | some o =>
        have z := grnd e o q (by rw [hs]; exact off)
        rw [newB] at z; cases z
    have new0 : X.s_0.heap.get? e = none := by
      cases q : X.s_0.heap.get? e with
      | none => rfl
      | some o =>
        obtain ⟨o', z⟩ := I1.base.there e o q (by rw [hex]; simp)
        rw [newI] at z; cases z
    have newP : ∀ p ∈ X.pn ++ pins, p.1 ≠ e := fun p hp z => by
      have q := (I1.pin p hp).1
      rw [z, newI] at q; cases q
    have S2 := I2.suite gA dA nG offL offF
    refine wpAny_handleBy_cons (codeAny_handlers_test ?_) (by intro q; cases q)
    have lk : PySem.W.Looks (model X.prog X.w) hA (typeOf (.ref e)) cls := fun A Q E s k q => wpAny_typeOf_ref (k _ _ gA) (by rw [zA.1]; exact q)
    have asks : ∀ {Q : Value → Shared → Prop} {E : Value → Shared → Prop}, Q c { t0 with heap := hA } → wpAny (model X.prog X.w) (X.A.mark (some (.ref e))) (eval (.Name x np) X.env) Q E { t0 with heap := hA } := fun {Q E} q => by
      rcases hc with ⟨g1, g2, g3 | ⟨g3, g4, g5⟩⟩
      · exact ld_glob (X := X.suite e ((e, oA) :: (X.pn ++ pins))) S2 g1 g3 q g2
      · exact ld_blt (X := X.suite e ((e, oA) :: (X.pn ++ pins))) S2 g1 g3 g4 q g5 g2
    refine asks ((PySem.W.exm_one (M := model X.prog X.w) I2.kIn lk mat).here ?_)
    refine codeAny_handlers_suite_as (HandSPX.lands_againZ flA fun hC flC upC => ?_)
    have I3 : Inv X pins τ G { t0 with heap := hC } := I1.landed grnd flC.1 ((up0.trans upA).trans upC) eos abr
    obtain ⟨oC, fC, gC, zC, dC⟩ := flC.there
    have S3 := I3.suite gC dC nG offL offF
    refine store_ok (X := X.suite e ((e, oC) :: (X.pn ++ pins))) (v := .ref e) S3 hN hi (.inl hln) rfl (fun s5 S5 => ?_) (.inr hln)
    have leni : i < τ.length := by rw [I1.len]; exact (List.getElem?_eq_some_iff.mp hi).1
    refine wpAny_mono ((hsw e ((e, oC) :: (X.pn ++ pins))).run [] s5 _ G { nx := fun σ' H' => σ' = (τ.set i (some (.ref e))).set j (some (.ref e)) ∧ H' = G, rt := fun _ _ => False } S5 ⟨.ref e, by rw [List.getElem?_set_self leni], rfl, rfl⟩) (fun fl s6 sp => ?_) fun _ _ z => z.elim
    cases fl with
    | next =>
      obtain ⟨σ6, H6, S6, rfl, rfl⟩ := sp
      obtain ⟨g6, n6, _⟩ := S6.pin (e, oC) (List.mem_append.mpr (.inl (.head _)))
      have I6 : Inv X pins _ H6 s6 := S6.unsuite good
      have I7 := adopt (u := XcO cls e) I6 nG g6 dC new0 offL newP (xcO_ok g6 zC dC)
      exact gone_ok I7 hN hi hln fun s7 I8 => ⟨_, _, I8, want e nG⟩
    | brk => obtain ⟨_, _, _, z⟩ := sp; exact z.elim
    | cont => obtain ⟨_, _, _, z⟩ := sp; exact z.elim
    | ret u => obtain ⟨_, _, _, _, _, z⟩ := sp; exact z.elim
  cases fl with
  | next => obtain ⟨σ', H', J, q⟩ := sp; exact wpAny_execs_nil ⟨σ', H', J.ofTry good, q⟩
  | brk => obtain ⟨σ', H', J, q⟩ := sp; exact ⟨σ', H', J.ofTry good, q⟩
  | cont => obtain ⟨σ', H', J, q⟩ := sp; exact ⟨σ', H', J.ofTry good, q⟩
  | ret u => obtain ⟨v, σ', H', J, r, q⟩ := sp; exact ⟨v, σ', H', J.ofTry good, r, q⟩
def tOfA (K : PySem.W.Frag) (mg : Str → Option Value) (E : XK) (f : XL) : TA := fun σ H Q => ∃ Z Fz ρ env st, Rel K mg Z Fz ρ st H ∧ REnv K mg Fz ρ env σ ∧ Out K mg Z E Fz ρ (f env st) (fun vs _ Fz' ρ' H' => ∀ vs', RepL K mg Fz' ρ' vs vs' → Q vs' H')
theorem JA.pe {X : Cx} {E : XK} {es : List Expr} {f : XL} (h : JA X E es f) : PA X es (tOfA X.K X.mg E f) := by
  obtain ⟨t, p, s⟩ := h
  exact ⟨fun pos pins sh σ H Q I ⟨Z, Fz, ρ, env, st, rl, re, o⟩ => p.run pos pins sh σ H Q I (s Z Fz ρ env st σ H Q rl re o)⟩
def sTryCall (i j r n : Nat) (cs : List Str) (f : Fn) (fl : XL) : XS := fun env st => (noX (fl env st)).bind fun vs s => if vs.length = n then (match f vs s with
  | .ok v s2 => .ok (.nx (env.set r (some v))) s2
  | .ex c s2 => if c ∈ cs then .ok (.nx ((env.set j (some (.own s2.length))).set i none)) (s2 ++ [.exc c]) else .no
  | .no => .no) else .no
theorem renv_kept {K : PySem.W.Frag} {mg : Str → Option Value} {Fz : Hp} {ρ : List Addr} {env : Ev} {σ : L2.St} {i j : Nat} {p : PV} {v : V} (h : REnv K mg Fz ρ env σ) (r : Rep K mg Fz ρ p v) (hij : i ≠ j) :
    REnv K mg Fz ρ ((env.set j (some p)).set i none) (((σ.set i (some v)).set j (some v)).set i none) := by
  refine ⟨by simp [h.1], fun q z e => ?_⟩
  have hq : i ≠ q := fun w => by
    subst w
    have hl : i < (env.set j (some p)).length := by
      have := (List.getElem?_eq_some_iff.mp e).1
      simpa using this
    rw [List.getElem?_set_self hl] at e; cases e
  rw [List.getElem?_set_ne hq] at e ⊢
  by_cases hj : j = q
  · subst hj
    have hl : j < env.length := by
      have := (List.getElem?_eq_some_iff.mp e).1
      simpa using this
    rw [List.getElem?_set_self hl] at e
    cases e
    exact ⟨v, by rw [List.getElem?_set_self (by simp [← h.1, hl])], r⟩
  · rw [List.getElem?_set_ne hj] at e ⊢
    rw [List.getElem?_set_ne hq]
    exact h.2 q z e
theorem js_tryCall {E : XK} {k l m r : Nat} {g z : Str} {pr pg pc pq : Pos} {e : Expr} {es : List Expr} {f : Fn} {fl : XL} {cs : List Str} (hs : X.stack = X.env :: X.outer) (hf : X.env.frame = some X.env.locals) (hex : X.ex = []) (hN : X.N.Nodup) (hc : Names X x c)
    (hcs : ∀ w ∈ cs, ∃ C, X.mg w = some (.ref C) ∧ PySem.W.exmOne X.K (.ref C) c = some true)
    (F : Cl X.prog X.w X.K X.mg X.base k g m f) (hr : Room l X.A) (ha : ∀ (q : List (Addr × Obj)) (xe : Value → Shared → Prop), JA (X.tr q xe) E0 (e :: es) fl) (hk : k ≤ l := by decide)
    (hi : X.N[i]? = some n := by rfl) (hj : X.N[j]? = some y := by rfl) (hrN : X.N[r]? = some z := by rfl) (hij : i ≠ j := by decide) (hln : X.env.kindOf n = some .local := by rfl) (hly : X.env.kindOf y = some .local := by rfl) (hlz : X.env.kindOf z = some .local := by rfl) (hg : Gl X g := by rfl)
    (hdb : (g == ("__debug__" : Str)) = false := by decide) (he : starEach (e :: es) X.env = (false, eval e X.env) :: starEach es X.env := by rfl) (hpl : (backTo pc (starEach es X.env)).any (·.1) = false := by rfl)
    (hsw : swapsWith (.Call (.Name g pg) (e :: es) [] pc) (some (.Name z pr)) pq.line X.env = pure false := by rfl) (hsw2 : swapsWith (.Name n pn2) (some (.Name y py)) pa.line X.env = pure false := by rfl) (hd1 : (n == ("__debug__" : Str)) = false := by decide) (hd2 : (n == ("__classdict__" : Str)) = false := by decide) :
    JS X E (.Try [.Assign [.Name z pr] (.Call (.Name g pg) (e :: es) [] pc) pq] [.ExceptHandler (some (.Name x np)) (some n) [.Assign [.Name y py] (.Name n pn2) pa] pos'] [] [] pos) (sTryCall i j r m cs f fl) := by
  obtain ⟨d, fd, ps, hm, hkp, hbi, FO⟩ := F.ex
  refine ⟨fun D σ H => tAsg (tCallS (spF X.K X.mg m f) (WE (wTrack X.K c i j D)) (tOfA X.K X.mg E0 fl)) (gName r) D σ H, ps_try_track (tb := fun W => tAsg (tCallS (spF X.K X.mg m f) (WE W) (tOfA X.K X.mg E0 fl)) (gName r)) hs hf hex hN hi hj hln hly hc (fun W q xe tk _ => ?_) (fun a q => ?_), fun Z Fz ρ env st σ H D rl re o => ?_⟩
  · exact L2.pss_one (ps_set (X := X.tr q xe) (i := r) hN hrN (.inl hlz) (pe_callS (X := X.tr q xe) FO (hr.mono hk) hg hm hkp hbi (fun τ => passAt tk τ) (ha q xe).pe hdb he hpl) hsw (.inr hlz))
  · exact L2.pss_one (ps_set (X := X.suite a q) (i := j) hN hj (.inl hly) (pe_var (X := X.suite a q) hi (.inl hln) hd1 hd2) hsw2 (.inr hly))
  · refine ⟨Z, Fz, ρ, env, st, rl, re, ?_⟩
    have o1 : Out X.K X.mg Z E Fz ρ ((noX (fl env st)).bind fun vs s => if vs.length = m then (match f vs s with
      | .ok v s2 => R.ok (Fl.nx (env.set r (some v))) s2
      | .ex c s2 => if c ∈ cs then .ok (.nx ((env.set j (some (.own s2.length))).set i none)) (s2 ++ [.exc c]) else .no
      | .no => .no) else .no) (fun fl _ F' r' H' => FlP X.K X.mg D fl F' r' H') := o
    refine (out_noX o1.seq).mono fun vs s1 F1 r1 H1 _ ex1 rl1 o2 vs' rv => ?_
    split at o2
    · rename_i hn
      refine ⟨by rw [← rv.len]; exact hn, Z, F1, r1, s1, vs, rl1, rv, ?_⟩
      cases ef : f vs s1 with
      | ok v s2 =>
        rw [ef] at o2
        exact fun F2 r2 H2 ex2 rl2 v' rv' => o2 F2 r2 H2 ex2 rl2 _ (((re.mono ex1).mono ex2).set rv' r)
      | ex w s2 =>
        rw [ef] at o2
        have o3 : Out X.K X.mg Z E F1 r1 (if w ∈ cs then .ok (.nx ((env.set j (some (.own s2.length))).set i none)) (s2 ++ [.exc w]) else .no) (fun fl _ F' r' H' => FlP X.K X.mg D fl F' r' H') := o2
        split at o3
        · rename_i hw
          obtain ⟨C, hC, hm2⟩ := hcs w hw
          refine fun F2 r2 H2 ex2 rl2 => ⟨C, hC, rfl, hm2, fun a na => ?_⟩
          have ex0 : Ext F2 r2 F2 (r2 ++ [a]) := ⟨fun _ _ h => h, List.prefix_append _ _⟩
          obtain ⟨rl3, ex3⟩ := rl2.owned na (o := XcO (.ref C) a) (c := .exc w) rfl ⟨C, hC, upd_same⟩
          exact o3 F2 _ _ (ex2.trans ex3) rl3 _ (renv_kept ((re.mono ex1).mono (ex2.trans ex3)) (by rw [Rep]; exact ⟨a, by rw [← rl2.len]; simp, rfl⟩) hij)
        · exact o3.elim
      | no => rw [ef] at o2; exact o2.elim
    · exact o2.elim
def eIsE (t : Str → Bool) (cs : List Str) (f : XE) : XE := fun env st => (f env st).bind fun p s => match p with
  | .own k => (match s[k]? with
    | some (.exc c) => if c ∈ cs then .ok (.bl (t c)) s else .no
    | _ => .no)
  | _ => .no
theorem call_isX {X : Cx} : CallR X (.builtin "isinstance") (fun xs H Q => ∃ (a D : Addr) (c : V) (cv : Value) (b : Bool), xs = [.ref a, c] ∧ H a = some (XcO (.ref D) a) ∧ ExcC X.K D ∧ (∀ u, RelV c u → u = cv) ∧ PySem.W.kitOne X.K (.ref D) cv = some b ∧ Q (.bl b) H) := by
  intro pins s σ H xs us Q I r h
  obtain ⟨a, D, c, cv, b, rfl, hx, C, hcv, ek, q⟩ := h
  match us, r with
  | [u1, u2], .cons r1 (.cons r2 .nil) =>
    obtain rfl : u1 = Value.ref a := r1
    obtain rfl := hcv u2 r2
    obtain ⟨⟨oe, vs, g1, g2, g3⟩, _, _⟩ := I.hok a _ hx
    have inst : PySem.W.InstAt s.heap a oe D none := by
      obtain ⟨oc, od, oda, osl⟩ := oe
      obtain ⟨k1, k2⟩ := g2
      dsimp only at k1 k2 g3
      subst k1 k2 g3
      exact ⟨g1, rfl, rfl, trivial⟩
    exact PySem.W.kia_one (PySem.W.handS_kitx_exc C.hg C.hk C.hs C.hd C.ha C.hn C.ht C.hm) I.kIn inst ek (fun z => nomatch z) fun tk => ⟨.bl b, H, I.kept (t' := tk) fun _ _ z => z, rfl, q⟩
theorem je_isE {X : Cx} {E : XK} {a : Expr} {p q pos : Pos} {f : XE} {y : Str} {t : Str → Bool} {cs : List Str} {cV : V} {cv : Value} (ha : JE X E a f) (hy : PE X (.Name y q) (tC cV)) (hcv : ∀ u, RelV cV u → u = cv)
    (hcs : ∀ w ∈ cs, ∀ C, X.mg w = some (.ref C) → ExcC X.K C ∧ PySem.W.kitOne X.K (.ref C) cv = some (t w)) (hm : X.mg "isinstance" = none) (hg : Gl X "isinstance" := by rfl)
    (he : starEach [a, .Name y q] X.env = (false, eval a X.env) :: starEach [.Name y q] X.env := by rfl) (hpl : (backTo pos (starEach [.Name y q] X.env)).any (·.1) = false := by rfl) : JE X E (.Call (.Name "isinstance" p) [a, .Name y q] [] pos) (eIsE t cs f) := by
  obtain ⟨ta, pt, s⟩ := ha
  refine ⟨_, pe_callB call_isX hg hm (by decide +kernel) (pa_cons pt (pa_cons hy pa_nil) he) (he := he) (hpl := hpl), fun Z Fz ρ env st σ H Q rl hh o => ?_⟩
  refine s Z Fz ρ env st σ H _ rl hh (o.seq.mono fun x s1 F1 r1 H1 hq ex1 rl1 o1 x' rx => ?_)
  clear hq
  split at o1
  · rename_i k
    split at o1
    · rename_i w ek
      split at o1
      · rename_i hw
        rw [Rep] at rx
        obtain ⟨d, ed, rfl⟩ := rx
        obtain ⟨C, hC, hd⟩ := rl1.cell k d _ ed ek
        obtain ⟨k1, k2⟩ := hcs w hw C hC
        exact ⟨d, C, cV, cv, t w, rfl, hd, k1, hcv, k2, o1.here rl1 _ (by rw [Rep])⟩
      · exact o1.elim
    · exact o1.elim
  · exact o1.elim
end
end Lq
end
section
set_option Elab.async false
set_option linter.all false
set_option maxRecDepth 10000
namespace Lq
open PySem PySem.Spec PyProof.Rows L2
section
variable {X : Cx} {E : XK}
def eLenO (x : Str) (f : Fn) (fo : XE) : XE := fun env st => (fo env st).bind fun v s => match v with
  | .own k => (match s[k]? with
    | some (.ins y _) => if y = x then (f [.own k] s).bind fun r s2 => (match r with
      | .int m => if 0 ≤ m ∧ m < 2 ^ 63 then .ok (.int m) s2 else .no
      | _ => .no) else .no
    | _ => .no)
  | _ => .no
end
def findP (d : PV) : List PV → Nat → Option Nat
  | [], _ => none
  | x :: xs, i => if peq x d = true then some i else findP d xs (i + 1)
theorem findP_spec {d : PV} : ∀ {xs : List PV} {i j : Nat}, findP d xs i = some j → ∃ k z, j = i + k ∧ xs[k]? = some z ∧ peq z d = true ∧ ∀ m z', m < k → xs[m]? = some z' → peq z' d = false
  | [], _, _, h => by cases h
  | x :: xs, i, j, h => by
    unfold findP at h
    split at h
    · rename_i c
      cases h
      exact ⟨0, x, rfl, rfl, c, fun m z' hm _ => absurd hm (Nat.not_lt_zero _)⟩
    · rename_i c
      obtain ⟨k, z, h1, h2, h3, h4⟩ := findP_spec h
      refine ⟨k + 1, z, by omega, by simpa using h2, h3, fun m z' hm e => ?_⟩
      cases m with
      | zero => simp at e; subst e; simpa using c
      | succ m => exact h4 m z' (by omega) (by simpa using e)
theorem toDs_get : ∀ {xs : List PV} {k : Nat}, (toDs xs)[k]? = (xs[k]?).map toD
  | [], k => by simp [toDs]
  | x :: xs, 0 => by simp [toDs]
  | x :: xs, k + 1 => by simp [toDs, toDs_get]
theorem noScrs_get : ∀ {xs : List PV} {k : Nat} {z : PV}, noScrs xs = true → xs[k]? = some z → noScr z = true
  | [], _, _, _, e => by simp at e
  | x :: xs, 0, z, h, e => by
    rw [noScrs, Bool.and_eq_true] at h
    simp at e; subst e; exact h.1
  | x :: xs, k + 1, z, h, e => by
    rw [noScrs, Bool.and_eq_true] at h
    exact noScrs_get h.2 (by simpa using e)
def eLr (go : PV → PV → Store → Option PV) (fo : XE) (fl : XL) : XE := fun env st => (fo env st).bind fun v s => match asL s v with
  | some _ => (fl env s).bind fun ys s2 => (match ys with
    | [y] => (match go v y s2 with
      | some z => .ok z s2
      | none => .no)
    | _ => .no)
  | none => .no
def goIndex : PV → PV → Store → Option PV := fun v y st => match rsv st v with
  | .lst xs => if (dChk y && dChk (.lst xs)) = true then (findP y xs 0).map fun k => .int (k : Int) else none
  | _ => none
section
variable {X : Cx} {E : XK} {e o : Expr} {apos cpos : Pos} {fo : XE} {fl : XL}
theorem s_lr {go : PV → PV → Store → Option PV} {r : V → List V → Hp → VK → Prop} {to : TE} {t : TA} (hr : ∀ (Z Fz : Hp) (ρ : List Addr) (st : Store) (H : Hp) (v y : PV) (v' y' : V) (z : PV) (Q : VK), Rel X.K X.mg Z Fz ρ st H → Rep X.K X.mg Fz ρ v v' → Rep X.K X.mg Fz ρ y y' → go v y st = some z →
    (∀ v'', Rep X.K X.mg Fz ρ z v'' → Q v'' H) → r v' [y'] H Q) (so : SE X.K X.mg E to fo) (sa : SA X.K X.mg E t fl) : SE X.K X.mg E (tBM X.K "list" r to t) (eLr go fo fl) := fun Z Fz ρ env st σ H Q rl re o => by
  refine so Z Fz ρ env st σ H _ rl re (o.seq.mono fun v s1 F1 r1 H1 hq ex1 rl1 o1 v' rv => ?_)
  clear hq
  split at o1
  · rename_i xs ex
    obtain ⟨d, vs, rfl, sq, _, _⟩ := asL_ok rl1 rv ex
    refine ⟨.inl ⟨rfl, vs, sq⟩, sa Z F1 r1 env s1 σ H1 _ rl1 (re.mono ex1) (o1.seq.mono fun ys s2 F2 r2 H2 hq2 ex2 rl2 o2 ys' ry => ?_)⟩
    clear hq2
    split at o2
    · obtain ⟨y', rfl, ry'⟩ := rep1 ry
      split at o2
      · rename_i z ez
        exact hr Z F2 r2 s2 H2 v _ _ y' z Q rl2 (rv.mono ex2) ry' ez fun v'' rz => o2.here rl2 v'' rz
      · exact o2.elim
    · exact o2.elim
  · exact o1.elim
theorem je_index (hu : X.A.units + 65 < cLine) (ho : JE X E o fo) (ha : JA X E [e] fl) (hbase : attributeBase o "index" X.env (eval o X.env) = eval o X.env := by rfl)
    (hfew : ((backTo cpos (starEach [e] X.env)).all (fun x => !x.1) && (backToKw cpos (keywordEach [] X.env)).all (fun x => x.1.isSome)
      && decide (([e] : List Expr).length + ([] : List Keyword).length + (if ([] : List Keyword).isEmpty then 0 else 1) < 30)) = true := by rfl)
    (hline : (apos.endLine == cpos.line) = true := by rfl) (hs : starEach [e] X.env = (false, eval e X.env) :: starEach [] X.env := by rfl) (hplain : (backTo cpos (starEach [] X.env)).any (·.1) = false := by rfl) :
    JE X E (.Call (.Attribute o "index" apos) [e] [] cpos) (eLr goIndex fo fl) := by
  obtain ⟨t, pt, s⟩ := ho
  obtain ⟨ta, pa, sa⟩ := ha
  refine ⟨_, pe_bm PySem.F.plainAttrs_list PySem.F.slot_list_index PySem.F.type_list_index (mt_indexD hu) pt pa hbase hfew hline hs hplain, s_lr (fun Z Fz ρ st H v y v' y' z Q rl rv ry eg q => ?_) s sa⟩
  unfold goIndex at eg
  split at eg
  · rename_i xs ex
    split at eg
    · rename_i c
      rw [Bool.and_eq_true] at c
      cases ef : findP y xs 0 with
      | none => rw [ef] at eg; cases eg
      | some j =>
        rw [ef] at eg
        cases eg
        obtain ⟨k, w, h1, h2, h3, h4⟩ := findP_spec ef
        have hk : j = k := by omega
        subst hk
        have dv := dp_rsv rl rv (by rw [ex]; exact c.2)
        rw [ex, toD] at dv
        have s2 := shaped_chk c.2
        rw [toD] at s2
        have c1 := c.1
        have c2 := c.2
        unfold dChk at c1 c2
        rw [Bool.and_eq_true] at c1 c2
        have ns : noScrs xs = true := by have := c2.2; rw [noScr] at this; exact this
        have isr : ∃ d, v' = .ref d := by cases dv with | lst _ _ => exact ⟨_, rfl⟩
        obtain ⟨d, rfl⟩ := isr
        refine ⟨d, y', toD y, toDs xs, j, toD w, rfl, rfl, dv, dp_x rl ry c.1, s2, shaped_chk c.1, by rw [toDs_get, h2]; rfl, by rw [eqv_toD _ _ (noScrs_get ns h2) c1.2]; exact h3, fun m z' hm e' => ?_, q _ (by rw [Rep])⟩
        rw [toDs_get] at e'
        cases em : xs[m]? with
        | none => rw [em] at e'; cases e'
        | some z2 =>
          rw [em] at e'
          cases e'
          rw [eqv_toD _ _ (noScrs_get ns em) c1.2]
          exact h4 m z2 hm em
    · cases eg
  · cases eg
def isB (b : Bool) : Value → Bool
  | .bool c => c == b
  | _ => false
theorem vals_bl : ∀ {bs : List Bool} {us : List Value}, Vals (bs.map V.bl) us → us = bs.map Value.bool
  | [], _, .nil => rfl
  | b :: bs, _, .cons r t => by
    have r' : _ = Value.bool b := r
    rw [r', vals_bl t]; rfl
theorem mt_countB : MtR X "list.count" (fun x xs H Q => ∃ (p : Addr) (bs : List Bool) (b : Bool), x = .ref p ∧ xs = [.bl b] ∧ SqL X.K H p (bs.map V.bl) ∧ Q (.int ((bs.count b : Nat) : Int)) H) := by
  intro pins s σ H x xs v us Q I rx rxs h
  obtain ⟨l, bs, b, rfl, rfl, sq, q⟩ := h
  obtain rfl : v = Value.ref l := rx
  match us, rxs with
  | [u], .cons ru .nil =>
    obtain rfl : u = Value.bool b := ru
    obtain ⟨its, rv, ⟨⟨cls, dd, data, sl⟩, n, ho, hc, hdn, hd⟩, hlen⟩ := I.list sq
    have ei := vals_bl rv
    subst ei
    simp only at hc hd
    subst hc hd
    have eqs : ∀ y, y ∈ (bs.map Value.bool).toArray → SeqAt.EqAt X.A.in1 s y (.bool b) (isB b y) := fun y hy => by
      have hy' : y ∈ bs.map Value.bool := by simpa using hy
      obtain ⟨c, _, rfl⟩ := List.mem_map.mp hy'
      exact SeqAt.EqAt.bool_bool c b
    have cnt : ∀ bs : List Bool, (bs.map Value.bool).countP (isB b) = bs.count b := fun bs => by
      induction bs with
      | nil => rfl
      | cons c r ih => rw [List.map_cons, List.countP_cons, ih, List.count_cons]; rfl
    refine call_meets PySem.F.slot_list_count ⟨_, ho, rfl⟩ PySem.F.entry_list_count (PySem.F.args_list_count_2 _ _) (SeqAt.list_countAt l _ n dd sl (.bool b) (isB b)) ⟨ho, eqs, ?_⟩
    refine ⟨.int ((bs.count b : Nat) : Int), H, I.tok _, ⟨s.toks, ?_⟩, q⟩
    show Value.int ((((bs.map Value.bool).toArray.toList.countP (isB b) : Nat) : Int)) s.toks = _
    rw [List.toList_toArray, cnt]
def goCount : PV → PV → Store → Option PV := fun v y st => match asL st v, y with
  | some xs, .bl b => (match asBools xs with
    | some bs => some (.int ((bs.count b : Nat) : Int))
    | none => none)
  | _, _ => none
theorem je_count (ho : JE X E o fo) (ha : JA X E [e] fl) (hbase : attributeBase o "count" X.env (eval o X.env) = eval o X.env := by rfl)
    (hfew : ((backTo cpos (starEach [e] X.env)).all (fun x => !x.1) && (backToKw cpos (keywordEach [] X.env)).all (fun x => x.1.isSome)
      && decide (([e] : List Expr).length + ([] : List Keyword).length + (if ([] : List Keyword).isEmpty then 0 else 1) < 30)) = true := by rfl)
    (hline : (apos.endLine == cpos.line) = true := by rfl) (hs : starEach [e] X.env = (false, eval e X.env) :: starEach [] X.env := by rfl) (hplain : (backTo cpos (starEach [] X.env)).any (·.1) = false := by rfl) :
    JE X E (.Call (.Attribute o "count" apos) [e] [] cpos) (eLr goCount fo fl) := by
  obtain ⟨t, pt, s⟩ := ho
  obtain ⟨ta, pa, sa⟩ := ha
  refine ⟨_, pe_bm PySem.F.plainAttrs_list PySem.F.slot_list_count PySem.F.type_list_count mt_countB pt pa hbase hfew hline hs hplain, s_lr (fun Z Fz ρ st H v y v' y' z Q rl rv ry eg q => ?_) s sa⟩
  unfold goCount at eg
  split at eg
  · rename_i xs b ex
    split at eg
    · rename_i bs eb
      cases eg
      obtain ⟨d, vs, rfl, sq, _, rr⟩ := asL_ok rl rv ex
      rw [asBools_eq eb] at rr
      rw [of_bools rr] at sq
      rw [Rep] at ry
      exact ⟨d, bs, b, rfl, by rw [ry], sq, q _ (by rw [Rep])⟩
    · cases eg
  · cases eg
end
end Lq
end
section
set_option Elab.async false
set_option linter.all false
set_option maxRecDepth 10000
namespace Lq
open PySem PySem.Spec PyProof.Rows L2
theorem sf_fz {K : PySem.W.Frag} {mg : Str → Option Value} {E : XK} {t : TE} {f : XL} (s : SF K mg E t f) : SE K mg E t (eFz f) := fun Z Fz ρ env st σ H Q rl hh o => s Z Fz ρ env st σ H Q rl hh (o.seq.mono fun xs s1 F1 r1 H1 _ ex1 rl1 o1 p vs hp hl rv => by
  obtain ⟨rl2, ex2⟩ := rl1.frozen hp (.lst vs)
  exact o1 _ _ _ ex2 rl2 _ (by rw [Rep]; exact ⟨p, vs, rfl, upd_same, hl, rv.mono ex2⟩))
def compW (ft : PV → Ev → Store → R Ev) (tt : Ev → Store → R Bool) (g1 : XL) (ft1 : PV → Ev → Store → R Ev) (tt1 : Ev → Store → R Bool) (fe : XE) (vs1 : List Nat) (env : Ev) : List PV → Store → R (List PV)
  | [], st => .ok [] st
  | x :: xs, st => (ft x env st).bind fun e s1 => (tt e s1).bind fun b s2 =>
    if b = true then (g1 e s2).bind fun ys s3 => (compV ft1 tt1 fe (wipeE e vs1) ys s3).bind fun zs s4 => (compW ft tt g1 ft1 tt1 fe vs1 env xs s4).bind fun ws s5 => .ok (zs ++ ws) s5
    else compW ft tt g1 ft1 tt1 fe vs1 env xs s2
def fComp2 (g : XL) (ft : PV → Ev → Store → R Ev) (tt : Ev → Store → R Bool) (g1 : XL) (ft1 : PV → Ev → Store → R Ev) (tt1 : Ev → Store → R Bool) (fe : XE) (vs vs1 : List Nat) : XL := fun env st => (g env st).bind fun xs s =>
  (noX (compW ft tt g1 ft1 tt1 fe vs1 (wipeE env vs) xs s)).bind fun ys s2 => if ys.length ≤ sizeLine then .ok ys s2 else .no
section
variable {K : PySem.W.Frag} {mg : Str → Option Value}
theorem lc2_read {E : XK} {wi : TI} {g g1 : XL} {ft ft1 : PV → Ev → Store → R Ev} {tt tt1 : Ev → Store → R Bool} {fe : XE} {vs vs1 : List Nat} (sw : SI K mg E wi g) :
    SF K mg E (tLc2 wi (tOfG K mg E0 vs ft) (tOfT K mg E0 tt) (tOfI K mg E0 g1) (tOfG K mg E0 vs1 ft1) (tOfT K mg E0 tt1) (tOf K mg E0 fe) vs vs1) (fComp2 g ft tt g1 ft1 tt1 fe vs vs1) := fun Z Fz ρ env st σ H Q rl re o => by
  refine sw Z Fz ρ env st σ H _ rl re (o.seq.mono fun xs s1 F1 r1 H1 _ ex1 rl1 o1 J hlen it D hD => ?_)
  obtain ⟨ys, sf, ec⟩ := out_E0 o1.seq
  have o2 : Out K mg Z E F1 r1 ((noX (compW ft tt g1 ft1 tt1 fe vs1 (wipeE env vs) xs s1)).bind fun ys s2 => if ys.length ≤ sizeLine then R.ok ys s2 else .no) _ := o1
  rw [ec] at o2
  have hys : ys.length ≤ sizeLine := Decidable.byContradiction fun z => by
    have o3 : Out K mg Z E F1 r1 (if ys.length ≤ sizeLine then R.ok ys sf else .no) _ := o2
    rw [if_neg z] at o3
    exact o3.elim
  have o4 : Out K mg Z E F1 r1 (if ys.length ≤ sizeLine then R.ok ys sf else .no) _ := o2
  rw [if_pos hys] at o4
  have hZD : Z D = none := by
    cases e : Z D with
    | none => rfl
    | some u => rw [(rl1.zf D u e).1] at hD; cases hD
  refine ⟨fun i m H => m = xs.length - i ∧ i ≤ xs.length ∧ ∃ (acc : List PV) (accv : List V) (F : Hp) (r : List Addr) (s : Store) (rest : List PV),
    Ext F1 r1 F r ∧ Rel K mg (upd Z D (.lst accv)) F r s H ∧ RepL K mg F r acc accv ∧ compW ft tt g1 ft1 tt1 fe vs1 (wipeE env vs) (xs.drop i) s = .ok rest sf ∧ acc ++ rest = ys, ?_, ?_⟩
  · exact ⟨_, rfl, Nat.zero_le _, [], [], F1, r1, s1, ys, Ext.refl, znew rl1 hD _, RepL.nil, by simpa using ec, rfl⟩
  · rintro i m H2 ⟨rfl, hi, acc, accv, F, r, s, rest, ex, rl2, ra, eq, hy⟩
    obtain ⟨ig, is⟩ := it (upd Z D (.lst accv)) F r s H2 ex rl2
    by_cases hlt : i < xs.length
    · right
      have ed : xs.drop i = xs[i] :: xs.drop (i + 1) := List.drop_eq_getElem_cons hlt
      obtain ⟨go, yl⟩ := ig i xs[i] (by simp [hlt])
      refine ⟨go, fun H' => ∃ (acc : List PV) (accv : List V) (F : Hp) (r : List Addr) (s : Store) (rest : List PV),
        Ext F1 r1 F r ∧ Rel K mg (upd Z D (.lst accv)) F r s H' ∧ RepL K mg F r acc accv ∧ compW ft tt g1 ft1 tt1 fe vs1 (wipeE env vs) (xs.drop (i + 1)) s = .ok rest sf ∧ acc ++ rest = ys,
        fun H' h => ⟨xs.length - (i + 1), by omega, rfl, hlt, h⟩, fun x H' y => ?_⟩
      obtain ⟨F3, ex3, rl3, rx⟩ := yl x H' y
      rw [ed] at eq
      unfold compW at eq
      obtain ⟨e1, t1, q1, eq⟩ := bind_ok eq
      obtain ⟨b, t2, q2, eq⟩ := bind_ok eq
      refine ⟨_, F3, r, wipeE env vs, s, xs[i], rl3, ((re.mono ex1).mono (ex.trans ex3)).wipe vs, rx, ?_⟩
      rw [q1]
      intro F4 r4 H4 ex4 rl4 σ4 re4 k4
      have hl4 : σ4.length = σ.length := by rw [k4.1, L2.wipe_length]
      refine ⟨wipe_eq hl4 k4.2, _, F4, r4, e1, t1, rl4, re4, ?_⟩
      rw [q2]
      intro F5 r5 H5 ex5 rl5
      cases b with
      | false =>
        rw [if_neg Bool.false_ne_true] at eq ⊢
        exact ⟨acc, accv, F5, r5, t2, rest, ex.trans (ex3.trans (ex4.trans ex5)), rl5, ra.mono (ex3.trans (ex4.trans ex5)), eq, hy⟩
      | true =>
        rw [if_pos rfl] at eq ⊢
        obtain ⟨us, t3, q3, eq⟩ := bind_ok eq
        obtain ⟨zs, t4, q4, eq⟩ := bind_ok eq
        obtain ⟨ws, t5, q5, eq⟩ := bind_ok eq
        cases eq
        have re5 := re4.mono ex5
        refine ⟨_, F5, r5, e1, t2, rl5, re5, ?_⟩
        rw [q3]
        intro F6 r6 H6 ex6 rl6 J1 hl1 it1
        have exB : Ext F1 r1 F6 r6 := ex.trans (ex3.trans (ex4.trans (ex5.trans ex6)))
        have ra6 := ra.mono (ex3.trans (ex4.trans (ex5.trans ex6)))
        refine ⟨fun j k H => k = us.length - j ∧ j ≤ us.length ∧ ∃ (acc : List PV) (accv : List V) (F : Hp) (r : List Addr) (s : Store) (rest : List PV),
          Ext F6 r6 F r ∧ Rel K mg (upd Z D (.lst accv)) F r s H ∧ RepL K mg F r acc accv ∧ compV ft1 tt1 fe (wipeE e1 vs1) (us.drop j) s = .ok rest t4 ∧ acc ++ (rest ++ ws) = ys, ?_, ?_⟩
        · exact ⟨_, rfl, Nat.zero_le _, acc, accv, F6, r6, t3, zs, Ext.refl, rl6, ra6, by simpa using q4, hy⟩
        · rintro j k H7 ⟨rfl, hj, acc7, accv7, F7, r7, s7, rest7, ex7, rl7, ra7, eq7, hy7⟩
          have it7 := it1 (upd Z D (.lst accv7)) F7 r7 s7 H7 ex7 rl7
          obtain ⟨ig7, is7⟩ := it7
          by_cases hlt7 : j < us.length
          · right
            have ed7 : us.drop j = us[j] :: us.drop (j + 1) := List.drop_eq_getElem_cons hlt7
            obtain ⟨go7, yl7⟩ := ig7 j us[j] (by simp [hlt7])
            refine ⟨go7, fun H' => ∃ (acc : List PV) (accv : List V) (F : Hp) (r : List Addr) (s : Store) (rest : List PV),
              Ext F6 r6 F r ∧ Rel K mg (upd Z D (.lst accv)) F r s H' ∧ RepL K mg F r acc accv ∧ compV ft1 tt1 fe (wipeE e1 vs1) (us.drop (j + 1)) s = .ok rest t4 ∧ acc ++ (rest ++ ws) = ys,
              fun H' h => ⟨us.length - (j + 1), by omega, rfl, hlt7, h⟩, fun x8 H8 y8 => ?_⟩
            obtain ⟨F8, ex8, rl8, rx8⟩ := yl7 x8 H8 y8
            rw [ed7] at eq7
            unfold compV at eq7
            obtain ⟨e9, t9, q9, eq7⟩ := bind_ok eq7
            obtain ⟨b9, t10, q10, eq7⟩ := bind_ok eq7
            refine ⟨_, F8, r7, wipeE e1 vs1, s7, us[j], rl8, ((re5.mono ex6).mono (ex7.trans ex8)).wipe vs1, rx8, ?_⟩
            rw [q9]
            intro F9 r9 H9 ex9 rl9 σ9 re9 k9
            have hl9 : σ9.length = σ4.length := by rw [k9.1, L2.wipe_length]
            refine ⟨wipe_eq hl9 k9.2, _, F9, r9, e9, t9, rl9, re9, ?_⟩
            rw [q10]
            intro F10 r10 H10 ex10 rl10
            cases b9 with
            | true =>
              rw [if_pos rfl] at eq7 ⊢
              obtain ⟨y', t11, q11, eq7⟩ := bind_ok eq7
              obtain ⟨zs', t12, q12, eq7⟩ := bind_ok eq7
              cases eq7
              refine ⟨_, F10, r10, e9, t10, rl10, re9.mono ex10, ?_⟩
              rw [q11]
              intro F11 r11 H11 ex11 rl11 v11 rv11
              refine ⟨accv7, (rl11.zf D _ upd_same).1, ?_, acc7 ++ [y'], accv7 ++ [v11], F11, r11, t11, zs', ?_, zwrite rl11, ?_, q12, ?_⟩
              · have h1 : acc7.length = accv7.length := ra7.len
                have h2 : (acc7 ++ (y' :: zs' ++ ws)).length = ys.length := by rw [hy7]
                simp at h2
                omega
              · exact ex7.trans (ex8.trans (ex9.trans (ex10.trans ex11)))
              · exact (ra7.mono (ex8.trans (ex9.trans (ex10.trans ex11)))).app (RepL.cons rv11 RepL.nil)
              · rw [← hy7]; simp
            | false =>
              rw [if_neg Bool.false_ne_true] at eq7 ⊢
              exact ⟨acc7, accv7, F10, r10, t10, rest7, ex7.trans (ex8.trans (ex9.trans ex10)), rl10, ra7.mono (ex8.trans (ex9.trans ex10)), eq7, hy7⟩
          · left
            have hj' : j = us.length := by omega
            subst hj'
            refine ⟨is7, ?_⟩
            rw [List.drop_length] at eq7
            cases eq7
            exact ⟨acc7, accv7, F7, r7, _, ws, exB.trans ex7, rl7, ra7, q5, by simpa using hy7⟩
    · left
      have hi' : i = xs.length := by omega
      subst hi'
      refine ⟨is, ?_⟩
      rw [List.drop_length] at eq
      cases eq
      rw [List.append_nil] at hy
      subst hy
      obtain ⟨d1, d2, d3⟩ := rl2.zf D _ upd_same
      have z := o4 F r (off H2 D) ex (zoff rl2 hZD) D accv off_same hys ra
      rw [off_upd d1] at z
      exact z
end
section
variable {X : Cx} {E : XK} {a b e elt tg iter tg1 iter1 : Expr} {ifs ifs1 : List Expr} {scope : Scope} {own : List (Str × Nat)} {vs1 : List Nat} {g g1 : XL} {ft ft1 : PV → Ev → Store → R Ev} {tt tt1 : Ev → Store → R Bool} {fe fa : XE} {pos : Pos}
theorem js_setLc {i : Nat} {y : Str} {py spos : Pos} (hc : X.calm = true) (hN : X.N.Nodup) (ok : BlkOk X.N X.env.scope scope own) (hi : JI X E tg iter g)
    (hg : Blk X scope fun Y => JGv Y E0 (own.map (·.2)) tg ft) (ht : Blk X scope fun Y => JTs Y E0 ifs tt) (he : Blk X scope fun Y => JE Y E0 elt fe)
    (hsw : swapsWith (.ListComp elt [⟨tg, iter, ifs, 0⟩] scope pos) (some (.Name y py)) spos.line X.env = pure true := by exact sw_true rfl rfl rfl (by decide +kernel)) (hy : X.N[i]? = some y := by rfl) (hyl : X.env.scope.names.lookup y = some .local := by rfl)
    (hs : ∀ x, foldedSetIterable iter X.env x = pure x := by intro _; rfl) : JS X E (.Assign [.Name y py] (.ListComp elt [⟨tg, iter, ifs, 0⟩] scope pos) spos) (sSet i (eFz (fComp g ft tt fe (own.map (·.2))))) := by
  obtain ⟨wi, pw, sw⟩ := hi
  exact ⟨_, ps_setLc hc hN hy hyl hsw pw ok (fun s H C cl fp => (hg s H C cl fp).pe) (fun s H C cl fp => (ht s H C cl fp).pe) (fun s H C cl fp => (he s H C cl fp).pe) hs, ss_set (sf_fz (lc_read sw))⟩
theorem js_setLc2 {i : Nat} {y : Str} {py spos : Pos} (hc : X.calm = true) (hN : X.N.Nodup) (ok : BlkOk X.N X.env.scope scope own) (hv : ∀ i ∈ vs1, i ∈ own.map (·.2)) (hi : JI X E tg iter g)
    (hg : Blk X scope fun Y => JGv Y E0 (own.map (·.2)) tg ft) (ht : Blk X scope fun Y => JTs Y E0 ifs tt) (hi1 : Blk X scope fun Y => JI Y E0 tg1 iter1 g1) (hg1 : Blk X scope fun Y => JGv Y E0 vs1 tg1 ft1) (ht1 : Blk X scope fun Y => JTs Y E0 ifs1 tt1) (he : Blk X scope fun Y => JE Y E0 elt fe)
    (hsw : swapsWith (.ListComp elt [⟨tg, iter, ifs, 0⟩, ⟨tg1, iter1, ifs1, 0⟩] scope pos) (some (.Name y py)) spos.line X.env = pure true := by exact sw_true rfl rfl rfl (by decide +kernel)) (hy : X.N[i]? = some y := by rfl) (hyl : X.env.scope.names.lookup y = some .local := by rfl)
    (hs : ∀ x, foldedSetIterable iter X.env x = pure x := by intro _; rfl) (hs1 : ∀ (env : Env) x, foldedSetIterable iter1 env x = pure x := by intro _ _; rfl) : JS X E (.Assign [.Name y py] (.ListComp elt [⟨tg, iter, ifs, 0⟩, ⟨tg1, iter1, ifs1, 0⟩] scope pos) spos) (sSet i (eFz (fComp2 g ft tt g1 ft1 tt1 fe (own.map (·.2)) vs1))) := by
  obtain ⟨wi, pw, sw⟩ := hi
  exact ⟨_, ps_setLc2 hc hN hy hyl hsw pw ok hv (fun s H C cl fp => (hg s H C cl fp).pe) (fun s H C cl fp => (ht s H C cl fp).pe) (fun s H C cl fp => (hi1 s H C cl fp).pe) (fun s H C cl fp => (hg1 s H C cl fp).pe) (fun s H C cl fp => (ht1 s H C cl fp).pe) (fun s H C cl fp => (he s H C cl fp).pe) hs hs1, ss_set (sf_fz (lc2_read sw))⟩
def sPar3 (i j l : Nat) (f : XL) : XS := fun env st => (f env st).bind fun vs s => match vs with
  | [v, w, u] => .ok (.nx (((env.set i (some v)).set j (some w)).set l (some u))) s
  | _ => .no
end
end Lq
end
section
set_option Elab.async false
set_option linter.all false
set_option maxRecDepth 100000
namespace Lq
open PySem PySem.Spec PyProof.Rows L2
open AutoSeq1 (wpAny_loadPart')
def iEnumT (f : XL) : XL := fun env st => (f env st).bind fun vs s => match vs with
  | [.tup xs] => .ok (nums xs) s
  | [p] => (match asVL s p with
    | some xs => .ok (nums xs) s
    | _ => .no)
  | _ => .no
section
variable {X : Cx} {E : XK} {a b : Expr} {p pos : Pos}
end
end Lq
end
section
set_option Elab.async false
set_option linter.all false
set_option maxRecDepth 10000
namespace Lq
open PySem PySem.Spec PyProof.Rows L2
def excs : List Str := ["InvalidThings", "InvalidTold", "InvalidWeights", "InvalidLot", "InvalidComparison", "InvalidNumber", "InvalidText", "NotSure", "NoneAgree", "TooMany", "NothingToUndo"]
def excIs (y c : Str) : Bool := y == "ValueError" || c == y
def exC1 (K : PySem.W.Frag) (D : Addr) : Bool :=
  decide (PySem.W.findIn K (.ref D) "__getattribute__" = some (some (.builtin "BaseException.__getattribute__"))) && (decide (PySem.W.findIn K (.ref D) "__getattr__" = some none) &&
  (decide (PySem.W.subIn K (.ref D) (.type "BaseException") = some true) && (PySem.W.hasDictIn K D &&
  (decide (PySem.W.findIn K (.ref D) "__class__" = some (some (.builtin "object.__class__"))) && (decide (PySem.W.specialIn K (.builtin "object.__class__") "__get__" = some (some (.builtin "getset_descriptor.__get__"))) &&
  (decide (PySem.W.takesIn K (.builtin "object.__class__") = some true) && decide (PySem.W.mroIn K D (.type "object") = some true)))))))
theorem exC1_ok {K : PySem.W.Frag} {D : Addr} (h : exC1 K D = true) : ExcC K D := by
  unfold exC1 at h
  simp only [Bool.and_eq_true, decide_eq_true_eq] at h
  exact ⟨h.1, h.2.1, h.2.2.1, h.2.2.2.1, h.2.2.2.2.1, h.2.2.2.2.2.1, h.2.2.2.2.2.2.1, h.2.2.2.2.2.2.2⟩
def exB (l : List Str) (K : PySem.W.Frag) : Bool := l.all fun c =>
  decide (PySem.W.nsIn K mainGlobals c = some (some (.ref (He.ga K c)))) && ((He.Fa.exc c).ok K && (exC1 K (He.ga K c) && (decide (PySem.W.exmOne K (.ref (He.ga K c)) (.ref (He.ga K "ScaleError")) = some true) &&
    (decide (PySem.W.kitOne K (.ref (He.ga K c)) (.type "ValueError") = some true) && l.all fun y => decide (PySem.W.kitOne K (.ref (He.ga K c)) (.ref (He.ga K y)) = some (c == y))))))
def frB (frees : List Str) (K : PySem.W.Frag) : Bool := frees.all fun x => decide (PySem.W.nsIn K mainGlobals x = some none)
def clB (cls : List (Str × List Str)) (K : PySem.W.Frag) : Bool := cls.all fun c => decide (PySem.W.nsIn K mainGlobals c.1 = some (some (.ref (He.ga K c.1)))) && ((He.Fa.cls c.1).ok K && c.2.all fun f => decide (PySem.W.findIn K (.ref (He.ga K c.1)) f = some none))
def sgs : List He.Dv := [.str ">", .str ">=", .str "="]
def sgB (K : PySem.W.Frag) : Bool := decide (PySem.W.nsIn K mainGlobals "SIGNS" = some (some (.ref (He.ga K "SIGNS")))) && He.tupB K "SIGNS" sgs
structure Ask where
  frees : List Str
  exq : List Str
  cls : List (Str × List Str)
  sgq : Bool
structure Fx (fa : List He.Fa) (fn : List He.DefD) (q : Ask) (K : PySem.W.Frag) (mg : Str → Option Value) : Prop where
  says : He.SaysD fa fn K
  ns : ∃ h : Heap, K.In h ∧ h.Ns mainGlobals mg
  frs : frB q.frees K = true
  exs : exB q.exq K = true
  clss : clB q.cls K = true
  sgn : q.sgq = true → sgB K = true
def exM (q : Ask) (K : PySem.W.Frag) : Bool := frB q.frees K && (exB q.exq K && (clB q.cls K && (!q.sgq || sgB K)))
def hookM (n : Nat) (fa : List He.Fa) (fn : List He.DefD) (q : Ask) : PySem.W.Hook where
  α := He.AlD × Bool
  obs := fun s => (He.obsDG n fa fn s.heap.get?, exM q (He.frG s.heap.get? (He.asD s.heap.get? n)))
  val := fun _ => (He.valD fn, true)
  says := fun _ h => ∃ K : PySem.W.Frag, K.In h ∧ He.SaysD fa fn K ∧ exM q K = true
  of := fun _ _ e => ⟨_, He.frG_in, congrArg (fun z : He.AlD × Bool => z.1) e, congrArg (fun z : He.AlD × Bool => z.2) e⟩
  keeps := fun _ _ _ ⟨K, hK, c⟩ k => ⟨K, PySem.W.Frag.In.keeps hK k, c⟩
def obM (n : Nat) (fa : List He.Fa) (fn : List He.DefD) (q : Ask) (s : PySem.W.SharedT) : He.AlD × Bool :=
  (He.obsDG n fa fn (HandSHeadRun.getT s), exM q (He.frG (HandSHeadRun.getT s) (He.asD (HandSHeadRun.getT s) n)))
theorem obM_eq {n : Nat} {fa : List He.Fa} {fn : List He.DefD} {q : Ask} (s : PySem.W.SharedT) : obM n fa fn q s = (hookM n fa fn q).obs s.abs := by
  have e : HandSHeadRun.getT s = s.abs.heap.get? := funext (HandSHeadRun.getT_eq s)
  unfold obM
  rw [e]
  rfl
section
variable {fa : List He.Fa} {fn : List He.DefD} {q : Ask} {K : PySem.W.Frag} {mg : Str → Option Value}
theorem fx_of {h : Heap} (X : K.In h) (G : h.Ns mainGlobals mg) (c : He.SaysD fa fn K) (e : exM q K = true) : Fx fa fn q K mg := by
  unfold exM at e
  simp only [Bool.and_eq_true] at e
  refine ⟨c, ⟨h, X, G⟩, e.1, e.2.1, e.2.2.1, fun z => ?_⟩
  · have := e.2.2.2
    rw [z] at this
    simpa using this
theorem Fx.fr (G : Fx fa fn q K mg) (x : Str) (hx : x ∈ q.frees) : mg x = none := by
  obtain ⟨h, X, N⟩ := G.ns
  have z := List.all_eq_true.mp G.frs x hx
  exact PySem.W.mg_none_of X N (of_decide_eq_true z)
theorem Fx.glo (G : Fx fa fn q K mg) (i : Nat) {x : Str} (h : fa[i]? = some (.glo x)) : mg x = some (.ref (He.ga K x)) := by
  obtain ⟨hp, X, N⟩ := G.ns
  exact He.glo_ok X N (G.says.fact i h)
theorem Fx.def_ (G : Fx fa fn q K mg) (i : Nat) {d : He.DefD} (h : fn[i]? = some d) (h1 : d.dfl = []) (h2 : d.kwd = []) : ∃ fd, FunD K d.name d.qual d.params d.body d.scope [] [] (He.fAd K d.at_) fd := by
  obtain ⟨fd, F⟩ := G.says.def_ i h
  unfold He.DefD.dvs He.DefD.kws at F
  rw [h1, h2] at F
  exact ⟨fd, F⟩
theorem Fx.exAll (G : Fx fa fn q K mg) {c : Str} (hc : c ∈ q.exq) : mg c = some (.ref (He.ga K c)) ∧ (He.Fa.exc c).ok K = true ∧ ExcC K (He.ga K c) ∧ PySem.W.exmOne K (.ref (He.ga K c)) (.ref (He.ga K "ScaleError")) = some true ∧
    PySem.W.kitOne K (.ref (He.ga K c)) (.type "ValueError") = some true ∧ ∀ y ∈ q.exq, PySem.W.kitOne K (.ref (He.ga K c)) (.ref (He.ga K y)) = some (c == y) := by
  obtain ⟨hp, X, N⟩ := G.ns
  have z := List.all_eq_true.mp G.exs c hc
  simp only [Bool.and_eq_true, decide_eq_true_eq] at z
  obtain ⟨z1, z2, z3, z4, z5, z6⟩ := z
  exact ⟨PySem.W.mg_of X N z1, z2, exC1_ok z3, z4, z5, fun y hy => of_decide_eq_true (List.all_eq_true.mp z6 y hy)⟩
theorem Fx.exc (G : Fx fa fn q K mg) {X : Cx} (x : Str) (hx : x ∈ q.exq) (hK : X.K = K := by rfl) (hm : X.mg = mg := by rfl) : ExcF X x := by
  subst hK hm
  obtain ⟨z1, z2, _⟩ := G.exAll hx
  obtain ⟨e1, e2, e3, e4⟩ := He.exc_ok z2
  exact ⟨_, z1, e1, e2, raises_own e3 e4⟩
theorem Fx.exm (G : Fx fa fn q K mg) (hq : q.exq = excs) {X : Cx} (hK : X.K = K := by rfl) (hm : X.mg = mg := by rfl) : ∀ w ∈ excs, ∃ C, X.mg w = some (.ref C) ∧ PySem.W.exmOne X.K (.ref C) (.ref (He.ga K "ScaleError")) = some true := fun w hw => by
  subst hK hm
  obtain ⟨z1, _, _, z4, _⟩ := G.exAll (hq ▸ hw)
  exact ⟨_, z1, z4⟩
theorem Fx.names (G : Fx fa fn q K mg) (hq : q.exq = excs) (i : Nat) (h : fa[i]? = some (.glo "ScaleError")) {X : Cx} (hg : Gl X "ScaleError" := by rfl) (hm : X.mg = mg := by rfl) : Names X "ScaleError" (.ref (He.ga K "ScaleError")) := by
  subst hm
  exact ⟨hg, by decide, .inl (G.glo i h)⟩
theorem Fx.isE (G : Fx fa fn q K mg) (hq : q.exq = excs) {X : Cx} {E : XK} {a : Expr} {p p2 pos : Pos} {f : XE} {y : Str} (hy : y ∈ excs) (ha : JE X E a f) (hi : mg "isinstance" = none) (hK : X.K = K := by rfl) (hm : X.mg = mg := by rfl) (hgy : Gl X y := by rfl) (hdb : (y == ("__debug__" : Str)) = false := by decide)
    (hg : Gl X "isinstance" := by rfl) (hv : (y == "ValueError") = false := by decide) (he : starEach [a, .Name y p2] X.env = (false, eval a X.env) :: starEach [.Name y p2] X.env := by rfl) (hpl : (backTo pos (starEach [.Name y p2] X.env)).any (·.1) = false := by rfl) :
    JE X E (.Call (.Name "isinstance" p) [a, .Name y p2] [] pos) (eIsE (excIs y) excs f) := by
  subst hK hm
  refine je_isE (cV := .ref (He.ga X.K y)) (cv := .ref (He.ga X.K y)) ha (pe_glob hgy (G.exAll (hq ▸ hy)).1 rfl hdb) (fun u r => r) (fun w hw C hC => ?_) hi hg he hpl
  obtain ⟨z1, _, z3, _, _, z6⟩ := G.exAll (hq ▸ hw)
  rw [z1] at hC; cases hC
  refine ⟨z3, ?_⟩
  rw [z6 y (hq ▸ hy)]
  unfold excIs
  rw [hv, Bool.false_or]
theorem Fx.isV (G : Fx fa fn q K mg) (hq : q.exq = excs) {X : Cx} {E : XK} {a : Expr} {p p2 pos : Pos} {f : XE} (ha : JE X E a f) (hi : mg "isinstance" = none) (hv : mg "ValueError" = none) (hK : X.K = K := by rfl) (hm : X.mg = mg := by rfl) (hgy : Gl X "ValueError" := by rfl)
    (hg : Gl X "isinstance" := by rfl) (he : starEach [a, .Name "ValueError" p2] X.env = (false, eval a X.env) :: starEach [.Name "ValueError" p2] X.env := by rfl) (hpl : (backTo pos (starEach [.Name "ValueError" p2] X.env)).any (·.1) = false := by rfl) :
    JE X E (.Call (.Name "isinstance" p) [a, .Name "ValueError" p2] [] pos) (eIsE (excIs "ValueError") excs f) := by
  subst hK hm
  refine je_isE (cV := .ty "ValueError") (cv := .type "ValueError") ha (pe_bltn hgy hv (by decide +kernel) rfl) (fun u r => r) (fun w hw C hC => ?_) hi hg he hpl
  obtain ⟨z1, _, z3, _, z5, _⟩ := G.exAll (hq ▸ hw)
  rw [z1] at hC; cases hC
  exact ⟨z3, z5⟩
end
section
variable {fa : List He.Fa} {fn : List He.DefD} {q : Ask} {P : Program} {w : World} {K : PySem.W.Frag} {mg : Str → Option Value} {base : Heap}
theorem Fx.signs (G : Fx fa fn q K mg) (hq : q.sgq = true) {X : Cx} {E : XK} {pos : Pos} (hg : Gl X "SIGNS" := by rfl) (hK : X.K = K := by rfl) (hm : X.mg = mg := by rfl) : JE X E (.Name "SIGNS" pos) (eC (.tup [.str ">", .str ">=", .str "="])) := by
  subst hK hm
  obtain ⟨hp, Y, N⟩ := G.ns
  have z := G.sgn hq
  unfold sgB at z
  rw [Bool.and_eq_true, decide_eq_true_eq] at z
  refine je_const (pe_glob hg (PySem.W.mg_of Y N z.1) (v := .ref (He.ga X.K "SIGNS")) rfl) fun Fz ρ => ?_
  rw [Rep]
  exact ⟨_, _, rfl, He.tupB_ok z.2 Fz, (by decide : 3 ≤ sizeLine), RepL.cons (by rw [Rep]; rfl) (RepL.cons (by rw [Rep]; rfl) (RepL.cons (by rw [Rep]; rfl) RepL.nil))⟩
end
section
variable {P : Program} {w : World} {K : PySem.W.Frag} {mg : Str → Option Value} {base : Heap} {N : List Str} {qual : Str} {scope : Scope} {f : Addr} {cdv : Value} {A : Around} {outer : List Env} {s : Shared} {H : Hp} {E : XK}
theorem ctx_tk : L2.Takes (cxOf (L2.CX P w) P w K mg base N qual scope f cdv A outer s H E) (fun cls d _ H => E cls d H) := takes_of rfl rfl rfl rfl
theorem ctx_px : Passes (L2.CX P w) (cxOf (L2.CX P w) P w K mg base N qual scope f cdv A outer s H E) E := passes_call ctx_tk fun _ _ _ _ h => h
theorem ctx_po : PassesOwn (model P w) (cxOf (L2.CX P w) P w K mg base N qual scope f cdv A outer s H E).A (cxOf (L2.CX P w) P w K mg base N qual scope f cdv A outer s H E).env (cxOf (L2.CX P w) P w K mg base N qual scope f cdv A outer s H E).xe := passes_of (X := cxOf (L2.CX P w) P w K mg base N qual scope f cdv A outer s H E) rfl
end
theorem law_sp {K : PySem.W.Frag} {mg : Str → Option Value} {g : Fn} {H : Hp} {a : Addr} {ns : List Int} (hS : SqL K H a (ns.map V.int)) (hl : ns.length ≤ sizeLine) (h : ∃ st, g [.scr ns] [] = .ok (.bl true) st) :
    spF K mg 1 g [.ref a] H (fun v _ => v = .bl true) E0 := by
  obtain ⟨st, e⟩ := h
  have rl : Rel K mg (fun _ => none) H [] [] H := ⟨fun _ _ z => (by cases z), fun _ _ z => z, rfl, fun k a x z => (by cases z), fun k a x z => (by cases z), List.nodup_nil⟩
  refine ⟨rfl, fun _ => none, H, [], [], [.scr ns], rl, RepL.cons (by rw [Rep]; exact ⟨a, rfl, hS, hl⟩) RepL.nil, ?_⟩
  rw [e]
  intro F' r' H' _ _ v' rv
  rw [Rep] at rv
  exact rv
theorem u65 {k : Nat} {A : Around} (hr : Room k A) : A.units + 65 < cLine := by have := hr.un; omega
theorem fn_calm {P : Program} {w : World} {K : PySem.W.Frag} {mg : Str → Option Value} {base : Heap} {k n : Nat} {f : Addr} {fd : FuncData} {ps : List Str} {g : Fn} (F : FnOk P w K mg base (L2.CX P w) k f fd ps (spF K mg n g)) :
    FnOk P w K mg base CX0 k f fd ps (fun vs H Q _ => spF K mg n g vs H Q E0) := by
  refine ⟨fun vs H Q E h => F.len vs H Q E0 h, fun A outer s H args us vs Q E hr he hb hv hs => ?_⟩
  refine codeAny_mono (F.run A outer s H args us vs Q E0 hr he hb hv hs) fun r s' hq => ?_
  cases r with
  | ok fl => cases fl <;> exact hq
  | error e =>
    obtain ⟨_, _, _, _, _, _, _, _, _, _, _, _, z⟩ := hq
    exact z.elim
end Lq
end
section
set_option Elab.async false
set_option linter.all false
set_option maxRecDepth 10000
namespace PySem.W
open PySem PySem.Calls PyProof.Rows PySem.SeqAt
section
variable {prog : Program} {w : World} {A : Around} {E : Value → Shared → Prop} {s : Shared}
theorem oneLt_tups {xs ys : List PyData} {a b : Value} {as bs : List Addr} {Q : Bool → Shared → Prop} (ra : Reads s.heap a (.tuple xs) as) (rb : Reads s.heap b (.tuple ys) bs) (h : alike (.tuple xs) (.tuple ys) = true)
    (hu : A.units + min (PyData.depth (.tuple xs)) (PyData.depth (.tuple ys)) < cLine) (hq : Q (dataLt (.tuple xs) (.tuple ys)) s) : wpAny (model prog w) A (oneLt' true a b) Q E s := by
  have hal : alikeAll xs ys = true := by simpa [alike] using h
  cases ra with
  | @tuple l o vs n _ as₁ h1 h2 h3 h4 =>
    cases rb with
    | @tuple l' o' vs' n' _ bs₁ k1 k2 k3 k4 =>
      have n1 : vs.size = xs.length := by simpa using ReadsAll.length _ _ _ h4
      have n2 : vs'.size = ys.length := by simpa using ReadsAll.length _ _ _ k4
      rw [dataLt_tuple, ← firstLt_toks xs ys hal, ← n1, ← n2] at hq
      rw [oneLt'_eq]
      simp only [if_true]
      refine wpAny_bind (wpAny_cRoomFor (room_here hu) ?_)
      obtain ⟨cls, dd, data, sl⟩ := o
      obtain ⟨cls', dd', data', sl'⟩ := o'
      simp only at h2 h3 k2 k3
      subst h2 h3 k2 k3
      refine wpAny_bind (wpAny_callSpecialIfBound?_slot (T := "tuple") ⟨_, h1, rfl⟩ F.slot_tuple_lt (call_meets F.slot_tuple_lt ⟨_, h1, rfl⟩ F.entry_tuple_lt (F.args_tuple_lt_2 _ _)
        (tuple_ltAt l l' vs vs' n n' dd dd' sl sl' (pairEq xs ys) (fun j => dataLt (xs.getD j .none) (ys.getD j .none))) ⟨h1, k1, fun j j1 j2 => ?_, fun j j1 j2 hj => ?_, ?_⟩))
      · have := eqAt_alikeAll xs ys A.in1 s vs.toList vs'.toList _ _ h4 k4 hal (room_in hu) j (by simpa using j1) (by simpa using j2)
        simpa using this
      · have := rcLt_alikeAll xs ys A.in1 s vs.toList vs'.toList _ _ h4 k4 hal (room_in hu) j (by simpa using j1) (by simpa using j2) hj
        simpa using this
      · exact wpAny_truthy_bool hq
theorem firsts_any : ∀ (vs : List Value) (ds : List PyData) {Q : List (Option Value) → Shared → Prop}, EachIs (fun v d => ∃ as, Reads s.heap v d as) vs ds → (∀ d, d ∈ ds → ∃ xs, d = .tuple xs) → (∀ fs : List (Option Value), fs.length = vs.length → (∀ d r, ds = d :: r → d = .tuple [] → ∃ fr, fs = none :: fr) → Q fs s) → wpAny (model prog w) A (vs.mapM firstOfTuple') Q E s
  | _, _, Q, .nil, _, h => by rw [List.mapM_nil]; exact wpAny_pure (h [] rfl (fun d r e => by cases e))
  | v :: vs, d :: ds, Q, .cons ⟨as, ra⟩ t, hd, h => by
    rw [List.mapM_cons]
    obtain ⟨xs, rfl⟩ := hd _ (List.mem_cons_self ..)
    cases ra with
    | @tuple l o its n _ as₁ h1 h2 h3 h4 =>
      refine wpAny_bind ?_
      rw [kas_first_eq]
      refine wpAny_bind (Looks.here (show Looks _ s.heap (typeOf (.ref l)) o.cls from (Looks.ld h1).andThen .now) ?_)
      rw [h2, if_neg (by first | decide | simp)]
      refine wpAny_bind (listItems_at h1 h3 (wpAny_pure ?_))
      refine wpAny_bind (firsts_any vs ds t (fun d hm => hd d (List.mem_cons_of_mem _ hm)) fun fs hl hf => wpAny_pure (h _ (by simp [hl]) fun d r e1 e2 => ?_))
      cases e1
      cases e2
      have : its.toList = [] := by
        cases q : its.toList with
        | nil => rfl
        | cons z zs => rw [q] at h4; cases h4
      have e0 : its[0]? = none := by rw [← Array.getElem?_toList, this]; rfl
      exact ⟨fs, by rw [e0]⟩
theorem SortsAt.tups0 {vs : List Value} {ds : List PyData} (e : EachIs (fun v d => ∃ as, Reads s.heap v d as) vs ds) (hal : AllAlike ds) (ht : ∀ d, d ∈ ds → ∃ xs, d = .tuple xs) (h0 : ∃ r, ds = .tuple [] :: r) (hu : ∀ d, d ∈ ds → A.units + d.depth < cLine) : SortsAt prog w A s (dataKind s.heap ds) vs := by
  have room : ∀ {d d' : PyData}, d ∈ ds → A.units + min d.depth d'.depth < cLine := fun {d d'} hd => Nat.lt_of_le_of_lt (Nat.add_le_add_left (Nat.min_le_left _ _) _) (hu d hd)
  refine ⟨fun v hv => ?_, oneType', ?_, fun h2 E Q hq => ?_⟩
  · obtain ⟨d, hd, as, r⟩ := e.left v hv
    exact ⟨_, dataKind_some hal hd r⟩
  · intro E x y a b Q ha hb hq
    obtain ⟨d, as, hd, ra, rfl⟩ := dataKind_inv ha
    obtain ⟨d', as', hd', rb, rfl⟩ := dataKind_inv hb
    rw [keyLt'_oneType]
    obtain ⟨xs, rfl⟩ := ht d hd
    obtain ⟨ys, rfl⟩ := ht d' hd'
    exact oneLt_tups ra rb (hal _ hd _ hd') (room hd) hq
  · obtain ⟨r, hr⟩ := h0
    rw [keyKind'_eq, List.mapM_toArray, map_eq_pure_bind]
    refine wpAny_bind (wpAny_bind (firsts_any vs ds e ht fun fs hl hf => wpAny_pure ?_))
    obtain ⟨fr, rfl⟩ := hf _ _ hr rfl
    rw [if_neg (by simp), if_neg (by simp)]
    rw [oneTypeOnly'_eq, List.mapM_toArray, map_eq_pure_bind]
    refine wpAny_bind (wpAny_bind (wpAny_bind (kas_mapM (r := Value.type "tuple") _ (fun v hv Q' hq => ?_) (wpAny_pure ?_))))
    · obtain ⟨d, hd, as, r⟩ := e.left v hv
      obtain ⟨xs, rfl⟩ := ht d hd
      exact (looks_reads r).here hq
    · have hall : ((List.map (fun _ => Value.type "tuple") vs).toArray.all fun x => x == Value.type "tuple") = true := by
        simp only [List.all_toArray, List.all_map, List.all_eq_true]
        intro _ _
        exact beq_self_eq_true _
      have h0 : (List.map (fun _ => Value.type "tuple") vs).toArray[0]? = some (Value.type "tuple") := by
        match vs, h2 with
        | _ :: _, _ => simp
      rw [h0]
      simp only [hall, if_true]
      exact wpAny_pure (wpAny_pure hq)
end
end PySem.W
end
section
set_option Elab.async false
set_option linter.all false
set_option maxRecDepth 10000
namespace Lq
open PySem PySem.Spec PyProof.Rows L2 PySem.W
mutual
/-- can be compared -/
def palk : PV → PV → Bool
  | .int _, .int _ => true
  | .str _, .str _ => true
  | .tup xs, .tup ys => palks xs ys
  | _, _ => false
def palks : List PV → List PV → Bool
  | x :: xs, y :: ys => palk x y && palks xs ys
  | _, _ => true
end
mutual
def plt : PV → PV → Bool
  | .int i, .int j => decide (i < j)
  | .str x, .str y => decide (x.cps.toList < y.cps.toList)
  | .tup xs, .tup ys => plts xs ys
  | _, _ => false
def plts : List PV → List PV → Bool
  | [], [] => false
  | [], _ :: _ => true
  | _ :: _, [] => false
  | x :: xs, y :: ys => if peq x y = true then plts xs ys else plt x y
end
mutual
theorem alike_of : ∀ (p q : PV), palk p q = true → alike (toD p) (toD q) = true
  | p, q, h => by
    cases p <;> cases q <;> first
      | (simp [palk] at h; done)
      | (unfold toD alike; rfl)
      | (rename_i xs ys; rw [palk] at h; unfold toD alike; exact alike_ofs xs ys h)
theorem alike_ofs : ∀ (ps qs : List PV), palks ps qs = true → alikeAll (toDs ps) (toDs qs) = true
  | [], [], _ => by unfold toDs alikeAll; rfl
  | [], _ :: _, _ => by unfold toDs; simp [alikeAll]
  | _ :: _, [], _ => by unfold toDs; simp [alikeAll]
  | x :: xs, y :: ys, h => by
    rw [palks, Bool.and_eq_true] at h
    unfold toDs alikeAll
    rw [alike_of x y h.1, alike_ofs xs ys h.2]; rfl
end
mutual
theorem plt_of : ∀ (p q : PV), palk p q = true → noScr p = true → noScr q = true → dataLt (toD p) (toD q) = plt p q
  | p, q, h, hp, hq => by
    cases p <;> cases q <;> first
      | (simp [palk] at h; done)
      | (unfold toD plt; exact dataLt_int _ _)
      | (unfold toD plt; exact dataLt_str _ _)
      | (rename_i xs ys; rw [palk] at h; rw [noScr] at hp hq; unfold toD plt; rw [dataLt_tuple]; exact plts_of xs ys h hp hq)
theorem plts_of : ∀ (ps qs : List PV), palks ps qs = true → noScrs ps = true → noScrs qs = true → PyProof.Rows.lexLt itemOrd (keyToksAll (toDs ps)) (keyToksAll (toDs qs)) = plts ps qs
  | [], [], _, _, _ => by simp only [toDs, keyToksAll, plts]; exact lex_irrefl _
  | [], y :: ys, _, _, _ => by
    simp only [toDs, plts, toks_all_cons, keyToksAll]
    rw [lex_diff (O := itemOrd) (by simp)]; rfl
  | x :: xs, [], _, _, _ => by
    simp only [toDs, plts, toks_all_cons, keyToksAll]
    rw [lex_diff (O := itemOrd) (by simp)]; rfl
  | x :: xs, y :: ys, h, hp, hq => by
    rw [palks, Bool.and_eq_true] at h
    rw [noScrs, Bool.and_eq_true] at hp hq
    have e := eqv_toD x y hp.1 hq.1
    rw [plts]
    cases w : peq x y with
    | true =>
      rw [if_pos rfl]
      unfold toDs
      rw [dataLt_all_yes (alike_of x y h.1) (by rw [e, w]), plts_of xs ys h.2 hp.2 hq.2]
    | false =>
      rw [if_neg (by simp)]
      unfold toDs
      rw [dataLt_all_no (alike_of x y h.1) (by rw [e, w]), plt_of x y h.1 hp.1 hq.1]
end
mutual
theorem peq_same : ∀ (p q : PV), palk p q = true → peq p q = true → p = q
  | p, q, h, e => by
    cases p <;> cases q <;> first
      | (simp [palk] at h; done)
      | (simp [peq] at e; rw [e])
      | (rename_i xs ys; rw [palk] at h; rw [peq] at e; rw [peqs_same xs ys h e])
theorem peqs_same : ∀ (ps qs : List PV), palks ps qs = true → peqs ps qs = true → ps = qs
  | [], [], _, _ => rfl
  | [], _ :: _, _, e => by simp [peqs] at e
  | _ :: _, [], _, e => by simp [peqs] at e
  | x :: xs, y :: ys, h, e => by
    rw [palks, Bool.and_eq_true] at h
    rw [peqs, Bool.and_eq_true] at e
    rw [peq_same x y h.1 e.1, peqs_same xs ys h.2 e.2]
end
def pins (x : PV) : List PV → List PV
  | [] => [x]
  | y :: r => if plt y x = true then y :: pins x r else x :: y :: r
def psort : List PV → List PV
  | [] => []
  | x :: xs => pins x (psort xs)
theorem pins_perm (x : PV) : ∀ l, (pins x l).Perm (x :: l)
  | [] => List.Perm.refl _
  | y :: r => by
    rw [pins]
    split
    · exact ((pins_perm x r).cons y).trans (List.Perm.swap x y r)
    · exact List.Perm.refl _
theorem psort_perm : ∀ l, (psort l).Perm l
  | [] => List.Perm.refl _
  | x :: xs => (pins_perm x _).trans ((psort_perm xs).cons x)
def palkA (xs : List PV) : Bool := xs.all fun x => noScr x && (dOk 50 x && xs.all fun y => palk x y)
def isTup : PV → Bool
  | .tup _ => true
  | _ => false
def isTupC : PV → Bool
  | .tup (_ :: _) => true
  | _ => false
def srtK (xs : List PV) : Bool := xs.all isTupC || (xs.all fun x => !isTup x) || (match xs with
  | .tup [] :: _ => xs.all isTup
  | _ => false)
def srtOk (xs : List PV) : Bool := palkA xs && srtK xs
theorem palkA_at {xs : List PV} (h : palkA xs = true) {x : PV} (hx : x ∈ xs) : noScr x = true ∧ dOk 50 x = true ∧ ∀ y, y ∈ xs → palk x y = true := by
  unfold palkA at h
  have := List.all_eq_true.mp h x hx
  rw [Bool.and_eq_true, Bool.and_eq_true] at this
  exact ⟨this.1, this.2.1, fun y hy => List.all_eq_true.mp this.2.2 y hy⟩
theorem toks_inj {p q : PV} (h : palk p q = true) (hp : noScr p = true) (hq : noScr q = true) (e : keyToks (toD p) = keyToks (toD q)) : p = q := by
  refine peq_same p q h ?_
  rw [← eqv_toD p q hp hq]
  cases w : PyData.eqv (toD p) (toD q) with
  | true => rfl
  | false =>
    have a := (toks_eqv _ _ (alike_of p q h)).2 w
    have a1 := a [.inl 0] [.inl 1]
    have a2 := a [] []
    rw [e, lex_pre] at a1
    rw [e, lex_pre] at a2
    rw [← a2] at a1
    exact absurd a1 (by decide)
theorem dle_iff {xs : List PV} (h : palkA xs = true) {x y : PV} (hx : x ∈ xs) (hy : y ∈ xs) : dataLe false toD x y = !plt y x := by
  obtain ⟨a1, _, a3⟩ := palkA_at h hx
  obtain ⟨b1, _, b3⟩ := palkA_at h hy
  rw [← plt_of y x (b3 x hx) b1 a1]
  rfl
theorem sort_eq {xs : List PV} (h : palkA xs = true) : xs.mergeSort (dataLe false toD) = psort xs := by
  have tr : ∀ a b c : PV, dataLe false toD a b = true → dataLe false toD b c = true → dataLe false toD a c = true := fun a b c => by
    show (!PyProof.Rows.lexLt itemOrd (keyToks (toD b)) (keyToks (toD a))) = true → (!PyProof.Rows.lexLt itemOrd (keyToks (toD c)) (keyToks (toD b))) = true → (!PyProof.Rows.lexLt itemOrd (keyToks (toD c)) (keyToks (toD a))) = true
    intro x y
    cases q : PyProof.Rows.lexLt itemOrd (keyToks (toD c)) (keyToks (toD a)) with
    | false => rfl
    | true => rcases lex_negTrans _ (keyToks (toD b)) _ q with z | z <;> simp_all
  have tot : ∀ a b : PV, (dataLe false toD a b || dataLe false toD b a) = true := fun a b => by
    show ((!PyProof.Rows.lexLt itemOrd (keyToks (toD b)) (keyToks (toD a))) || (!PyProof.Rows.lexLt itemOrd (keyToks (toD a)) (keyToks (toD b)))) = true
    cases q : PyProof.Rows.lexLt itemOrd (keyToks (toD b)) (keyToks (toD a)) with
    | false => rfl
    | true =>
      cases q2 : PyProof.Rows.lexLt itemOrd (keyToks (toD a)) (keyToks (toD b)) with
      | false => rfl
      | true =>
        have := lex_trans _ _ _ q q2
        rw [lex_irrefl] at this
        cases this
  have s1 : (xs.mergeSort (dataLe false toD)).Pairwise fun a b => dataLe false toD a b = true := List.pairwise_mergeSort tr tot xs
  have ins : ∀ (x : PV) (l : List PV), (∀ y, y ∈ x :: l → y ∈ xs) → (l.Pairwise fun a b => dataLe false toD a b = true) → (pins x l).Pairwise fun a b => dataLe false toD a b = true := by
    intro x l
    induction l with
    | nil => intro _ _; exact List.pairwise_singleton _ _
    | cons y r ih =>
      intro hm hs
      obtain ⟨hy, hr⟩ := List.pairwise_cons.mp hs
      rw [pins]
      have hx := hm x (by simp)
      have hym := hm y (by simp)
      split
      · rename_i c
        refine List.pairwise_cons.mpr ⟨fun z hz => ?_, ih (fun z hz => hm z (by simp only [List.mem_cons] at hz ⊢; rcases hz with z | z <;> simp [z])) hr⟩
        rcases List.mem_cons.mp ((pins_perm x r).mem_iff.mp hz) with e | hz
        · subst e
          rcases Bool.or_eq_true _ _ ▸ tot y z with w | w
          · exact w
          · rw [dle_iff h hx hym, c] at w; cases w
        · exact hy z hz
      · rename_i c
        refine List.pairwise_cons.mpr ⟨fun z hz => ?_, hs⟩
        have w : dataLe false toD x y = true := by rw [dle_iff h hx hym]; simpa using c
        rcases List.mem_cons.mp hz with e | hz
        · rw [e]; exact w
        · exact tr _ _ _ w (hy z hz)
  have s2 : ∀ l : List PV, (∀ y, y ∈ l → y ∈ xs) → (psort l).Pairwise fun a b => dataLe false toD a b = true := by
    intro l
    induction l with
    | nil => intro _; exact List.Pairwise.nil
    | cons x r ih =>
      intro hm
      refine ins x _ (fun y hy => hm y ?_) (ih fun y hy => hm y (by simp [hy]))
      rcases List.mem_cons.mp hy with e | hy
      · simp [e]
      · exact List.mem_cons_of_mem _ ((psort_perm r).mem_iff.mp hy)
  refine List.Perm.eq_of_pairwise (fun a b ha hb h1 h2 => ?_) s1 (s2 xs fun _ h => h) ((List.mergeSort_perm xs _).trans (psort_perm xs).symm)
  have ha := (List.mergeSort_perm xs _).mem_iff.mp ha
  have hb := (psort_perm xs).mem_iff.mp hb
  obtain ⟨a1, _, a3⟩ := palkA_at h ha
  obtain ⟨b1, _, b3⟩ := palkA_at h hb
  refine toks_inj (a3 b hb) a1 b1 (lex_total (O := itemOrd) _ _ ?_ ?_)
  · rw [dle_iff h hb ha, ← plt_of a b (a3 b hb) a1 b1] at h2
    simpa [dataLt] using h2
  · rw [dle_iff h ha hb, ← plt_of b a (b3 a ha) b1 a1] at h1
    simpa [dataLt] using h1
theorem toDs_map : ∀ ps : List PV, toDs ps = ps.map toD
  | [] => by unfold toDs; rfl
  | x :: xs => by unfold toDs; rw [toDs_map xs]; rfl
theorem reads_up {h h' : Heap} (k : ∀ b o, h.get? b = some o → h'.get? b = some o) : ∀ (d : PyData) (v : Value) (as : List Addr), alike d d = true → Reads h v d as → Reads h' v d as := by
  have key : (∀ d : PyData, ∀ (v : Value) (as : List Addr), alike d d = true → Reads h v d as → Reads h' v d as) ∧ True := by
    refine ⟨?_, trivial⟩
    intro d
    refine PyData.rec (motive_1 := fun d => ∀ (v : Value) (as : List Addr), alike d d = true → Reads h v d as → Reads h' v d as) (motive_2 := fun ds => ∀ (vs : List Value) (as : List Addr), alikeAll ds ds = true → ReadsAll h vs ds as → ReadsAll h' vs ds as)
      (motive_3 := fun _ => True) (motive_4 := fun _ => True) ?_ ?_ ?_ ?_ ?_ ?_ ?_ ?_ ?_ ?_ ?_ ?_ d
    · intro v as _ r; cases r; exact .none
    · intro b v as _ r; cases r; exact .bool _
    · intro b v as _ r; cases r; exact .int _ _
    · intro b v as _ r; cases r; exact .str _ _
    · intro xs ih v as hal r
      cases r with
      | list h1 h2 h3 h4 => exact .list (k _ _ h1) h2 h3 (ih _ _ (by simpa [alike] using hal) h4)
    · intro xs ih v as hal r
      cases r with
      | tuple h1 h2 h3 h4 => exact .tuple (k _ _ h1) h2 h3 (ih _ _ (by simpa [alike] using hal) h4)
    · intro _ _ v as hal _; simp [alike] at hal
    · intro vs as _ r; cases r; exact .nil
    · intro d ds ih ihs vs as hal r
      cases r with
      | cons h1 h2 => exact .cons (ih _ _ (alike_all_cons hal).1 h1) (ihs _ _ (alike_all_cons hal).2 h2)
    · trivial
    · intros; trivial
    · intros; trivial
  exact key.1
theorem dpAll_each {X : Cx} {pins : List (Addr × Obj)} {σ : L2.St} {H : Hp} {s : Shared} (I : L2.Inv X pins σ H s) : ∀ {vs : List V} {us : List Value} {ds : List PyData}, DpAll X.K H vs ds → Vals vs us → EachIs (fun v d => ∃ as, Reads s.heap v d as) us ds
  | _, _, _, .nil, r => by cases r; exact .nil
  | _, _, _, .cons h t, r => by
    cases r with
    | cons r1 r2 => exact .cons (Dp.reads I _ _ _ h r1) (dpAll_each I t r2)
theorem each_up {h h' : Heap} (k : ∀ b o, h.get? b = some o → h'.get? b = some o) : ∀ {us : List Value} {ds : List PyData}, (∀ d, d ∈ ds → alike d d = true) → EachIs (fun v d => ∃ as, Reads h v d as) us ds → EachIs (fun v d => ∃ as, Reads h' v d as) us ds
  | _, _, _, .nil => .nil
  | _, _, hd, .cons ⟨as, r⟩ t => .cons ⟨as, reads_up k _ _ _ (hd _ (List.mem_cons_self ..)) r⟩ (each_up k (fun d m => hd d (List.mem_cons_of_mem _ m)) t)
def SortableX (ds : List PyData) : Prop := Sortable ds ∨ ((∀ d, d ∈ ds → ∃ xs, d = .tuple xs) ∧ ∃ r, ds = .tuple [] :: r)
theorem sortsX {prog : Program} {w : World} {A : Around} {s : Shared} {vs : List Value} {ds : List PyData} (e : EachIs (fun v d => ∃ as, Reads s.heap v d as) vs ds) (hal : AllAlike ds) (hk : SortableX ds) (hu : ∀ d, d ∈ ds → A.units + d.depth < cLine) : SortsAt prog w A s (dataKind s.heap ds) vs := by
  rcases hk with hk | hk
  · exact SortsAt.data e hal hk hu
  · exact SortsAt.tups0 e hal hk.1 hk.2 hu
def rSortedD (K : PySem.W.Frag) : List V → Hp → VK → Prop := fun vs H Q => ∃ (a : Addr) (xs : List V) (ps : List PV) (S : V → PV → Prop), vs = [V.ref a] ∧ SqL K H a xs ∧ DpAll K H xs (ps.map toD) ∧ PySem.Paired S xs ps ∧ AllAlike (ps.map toD) ∧ SortableX (ps.map toD) ∧ (∀ d, d ∈ ps.map toD → d.depth ≤ 50) ∧
  ∀ ys p, PySem.Paired S ys (ps.mergeSort (dataLe false toD)) → H p = none → Q (.ref p) (upd H p (.lst ys))
theorem each_pair {S : V → PV → Prop} : ∀ {xs : List V} {us : List Value} {ps : List PV}, Vals xs us → PySem.Paired S xs ps → EachIs (fun u b => ∃ x, RelV x u ∧ S x b) us ps
  | _, _, _, .nil, h => by cases h; exact .nil
  | _, _, _, .cons r rs, h => by
    cases h with
    | cons h1 h2 => exact .cons ⟨_, r, h1⟩ (each_pair rs h2)
theorem each_back {S : V → PV → Prop} : ∀ {us : List Value} {ps : List PV}, EachIs (fun u b => ∃ x, RelV x u ∧ S x b) us ps → ∃ ys, Vals ys us ∧ PySem.Paired S ys ps
  | _, _, .nil => ⟨[], .nil, .nil⟩
  | _, _, .cons ⟨x, r, h⟩ t => by
    obtain ⟨ys, a, b⟩ := each_back t
    exact ⟨x :: ys, .cons r a, .cons h b⟩
theorem each_len {α β : Type} {R : α → β → Prop} : ∀ {as : List α} {bs : List β}, EachIs R as bs → as.length = bs.length
  | _, _, .nil => rfl
  | _, _, .cons _ t => by simp [each_len t]
theorem cr_sortedD {X : Cx} (hu : X.A.units + 64 < cLine) : CallR X (.builtin "sorted") (rSortedD X.K) := by
  intro pins s σ H vs us Q I r h
  obtain ⟨a, xs, ps, S, rfl, hs, hd, hp, hal, hk, hdep, q⟩ := h
  obtain ⟨its, rv, hl, hz⟩ := I.list hs
  obtain ⟨u, rfl, ru⟩ := vals1 r
  obtain rfl : u = Value.ref a := ru
  have hself : ∀ d, d ∈ ps.map toD → alike d d = true := fun d hm => hal d hm d hm
  have er := each_up (fun b o e => sorting_copy_old (vs := its) e) hself (dpAll_each I hd rv)
  have es := each_pair rv hp
  have ub : X.A.in1.in1.units ≤ X.A.units + 2 := by
    show X.A.units + 1 + 1 ≤ _
    omega
  refine sorted_vals hl.isList (sortsX (s := { s with heap := sortingHeap (copyHeap s.heap its) (s.heap.objs.size + 1) its }) er hal hk fun d hm => ?_) (by rw [← rv.length]; exact hz) ?_
  · have := hdep d hm
    omega
  · have out := sortVals_data (h' := sortingHeap (copyHeap s.heap its) (s.heap.objs.size + 1) its) (enc := toD) false es (each_of_map toD er) hal
    obtain ⟨ys, y1, y2⟩ := each_back out
    obtain ⟨n, hn⟩ := sortedAll_at s.heap its (sortVals (dataKind (sortingHeap (copyHeap s.heap its) (s.heap.objs.size + 1) its) (ps.map toD)) false its its).toArray
    have len : ys.length = xs.length := by
      rw [y1.length, each_len out, List.length_mergeSort, ← each_len es, rv.length]
    exact ⟨.ref (s.heap.objs.size + 1), upd H (s.heap.objs.size + 1) (.lst ys), I.laid (t' := s.toks) (fun b o e => sortedAll_old e) (Nat.le_succ _) ⟨by rw [len]; exact hz, _, n, y1, hn⟩, rfl, q ys _ y2 (I.hok.fresh (Nat.le_succ _))⟩
def fSorted (a : XE) : XL := fun env st => (a env st).bind fun p s => match asL s p with
  | some xs => if srtOk xs = true then .ok (psort xs) s else .no
  | none => .no
theorem repL_pair {K : PySem.W.Frag} {mg : Str → Option Value} {Fz : Hp} {ρ : List Addr} : ∀ {ps : List PV} {vs : List V}, RepL K mg Fz ρ ps vs → PySem.Paired (fun v p => Rep K mg Fz ρ p v) vs ps
  | [], _, h => by rw [RepL] at h; subst h; exact .nil
  | _ :: _, _, h => by
    rw [RepL] at h
    obtain ⟨v, r, rfl, h1, h2⟩ := h
    exact .cons h1 (repL_pair h2)
theorem pair_repL {K : PySem.W.Frag} {mg : Str → Option Value} {Fz : Hp} {ρ : List Addr} : ∀ {ps : List PV} {vs : List V}, PySem.Paired (fun v p => Rep K mg Fz ρ p v) vs ps → RepL K mg Fz ρ ps vs
  | _, _, .nil => RepL.nil
  | _, _, .cons h t => RepL.cons h (pair_repL t)
theorem dOks_all (n : Nat) : ∀ {xs : List PV}, (∀ x, x ∈ xs → dOk n x = true) → dOks n xs = true
  | [], _ => by simp [dOks]
  | x :: xs, h => by rw [dOks, h x (by simp), dOks_all n fun y hy => h y (by simp [hy])]; rfl
theorem noScrs_all : ∀ {xs : List PV}, (∀ x, x ∈ xs → noScr x = true) → noScrs xs = true
  | [], _ => by simp [noScrs]
  | x :: xs, h => by rw [noScrs, h x (by simp), noScrs_all fun y hy => h y (by simp [hy])]; rfl
theorem toD_tup {p : PV} (hn : noScr p = true) : (∃ xs, toD p = .tuple xs) ↔ isTup p = true := by
  cases p <;> simp [toD, isTup]
theorem srt_x {xs : List PV} (h : srtOk xs = true) : AllAlike (xs.map toD) ∧ SortableX (xs.map toD) ∧ (∀ d, d ∈ xs.map toD → d.depth ≤ 50) ∧ dOks 50 xs = true ∧ noScrs xs = true := by
  unfold srtOk at h
  rw [Bool.and_eq_true] at h
  obtain ⟨h, hk⟩ := h
  refine ⟨?_, ?_, ?_, dOks_all 50 fun x hx => (palkA_at h hx).2.1, noScrs_all fun x hx => (palkA_at h hx).1⟩
  · intro d hd d' hd'
    obtain ⟨x, hx, rfl⟩ := List.mem_map.mp hd
    obtain ⟨y, hy, rfl⟩ := List.mem_map.mp hd'
    exact alike_of x y ((palkA_at h hx).2.2 y hy)
  · unfold srtK at hk
    rw [Bool.or_eq_true, Bool.or_eq_true] at hk
    rcases hk with (hk | hk) | hk
    · refine .inl (.inl fun d hd => ?_)
      obtain ⟨x, hx, rfl⟩ := List.mem_map.mp hd
      have := List.all_eq_true.mp hk x hx
      cases x with
      | tup ys =>
        cases ys with
        | nil => simp [isTupC] at this
        | cons y r => exact ⟨toD y, toDs r, by simp [toD, toDs]⟩
      | _ => simp [isTupC] at this
    · refine .inl (.inr fun d hd => ?_)
      obtain ⟨x, hx, rfl⟩ := List.mem_map.mp hd
      have a := List.all_eq_true.mp hk x hx
      have b := (palkA_at h hx).2.2 x hx
      cases x <;> simp [isTup, palk] at a b <;> simp [toD]
    · right
      split at hk
      · rename_i r
        refine ⟨fun d hd => ?_, (r.map toD), by simp [toD, toDs]⟩
        obtain ⟨x, hx, rfl⟩ := List.mem_map.mp hd
        have a := List.all_eq_true.mp hk x hx
        exact (toD_tup (palkA_at h hx).1).mpr a
      · cases hk
  · intro d hd
    obtain ⟨x, hx, rfl⟩ := List.mem_map.mp hd
    exact (lay_toD 50 x (palkA_at h hx).2.1).2
theorem jf_sorted {X : Cx} {E : XK} {a : Expr} {p pos : Pos} {fa : XE} (hu : X.A.units + 64 < cLine) (ha : JE X E a fa) (hm : X.mg "sorted" = none) (hg : Gl X "sorted" := by rfl)
    (he : starEach [a] X.env = (false, eval a X.env) :: starEach [] X.env := by rfl) (hpl : (backTo pos (starEach [] X.env)).any (·.1) = false := by rfl) : JF X E (.Call (.Name "sorted" p) [a] [] pos) (fSorted fa) := by
  obtain ⟨t, pt, s⟩ := ha
  refine ⟨_, pe_callB (cr_sortedD hu) hg hm (by decide +kernel) (pa_cons pt pa_nil he) (he := he) (hpl := hpl), fun Z Fz ρ env st σ H Q rl hh o => ?_⟩
  refine s Z Fz ρ env st σ H _ rl hh (o.seq.mono fun x s1 F1 r1 H1 _ ex1 rl1 o1 x' rx => ?_)
  split at o1
  · rename_i xs es
    split at o1
    · rename_i ok
      obtain ⟨a, ws, rfl, sq, hl, rr⟩ := asL_ok rl1 rx es
      obtain ⟨k1, k2, k3, k4, k5⟩ := srt_x ok
      have ok' := ok
      unfold srtOk at ok'
      rw [Bool.and_eq_true] at ok'
      refine ⟨a, ws, xs, _, rfl, sq, by rw [← toDs_map]; exact dp_ofs rl1.fz 50 xs k4 k5 rr, repL_pair rr, k1, k2, k3, fun ys p hy hp => ?_⟩
      rw [sort_eq ok'.1] at hy
      exact o1.here rl1 p ys hp (by rw [(psort_perm xs).length_eq]; exact hl) (pair_repL hy)
    · exact o1.elim
  · exact o1.elim
end Lq
end
section
set_option Elab.async false
set_option linter.all false
set_option maxRecDepth 100000
namespace Lq
open PySem PySem.Spec PyProof.Rows L2
variable {X : Cx}
theorem cr_sumT (hc : X.calm = true) : CallR X (.builtin "sum") (fun vs H Q => ∃ (a : Addr) (ns : List Int), vs = [V.ref a] ∧ SqT X.K H a (ns.map V.int) ∧ Q (.int ns.sum) H) := by
  intro pins s σ H vs us Q I r h
  obtain ⟨a, ns, rfl, hs, q⟩ := h
  obtain ⟨its, rv, hl, _⟩ := I.tuple hs
  rw [Vals.ref1 r]
  have hi := rv.ints
  obtain ⟨xs, hx⟩ := hi.allInts.items
  have hn : numsOf its.toArray.toList = ns := by rw [show its.toArray.toList = its from rfl, hi.numsOf]
  have hl' : s.heap.IsTuple a its.toArray := hl
  rw [hx] at hl' hn
  rw [nums_intItems] at hn
  refine PySem.W.ktm_sumG (I.ok.hd hc) hl' fun h' tk t' hk => ?_
  refine ⟨.int _, H, I.kept hk, ⟨_, rfl⟩, ?_⟩
  have e : preSum (numAt xs) xs.size = ns.sum := by
    rw [preSum_eq, List.take_of_length_le (by simp), hn]
  rw [e]
  exact q
def oSumT : List PV → Store → Option PV
  | [.tup xs], _ => (asInts xs).map fun ns => .int ns.sum
  | _, _ => none
theorem jc_sumT (hc : X.calm = true) : JC X (.builtin "sum") oSumT := by
  refine ⟨_, cr_sumT hc, fun Z Fz ρ st H vs ps pz Q rl rp e q => ?_⟩
  unfold oSumT at e
  split at e
  · rename_i xs
    obtain ⟨v, rfl, rv⟩ := rep1 rp
    cases en : asInts xs with
    | none => rw [en] at e; cases e
    | some ns =>
      rw [en] at e
      cases e
      obtain ⟨a, ws, rfl, sa, _, rr⟩ := tup_ok rl rv
      rw [asInts_eq en] at rr
      rw [RepL.of_ints rr] at sa
      exact ⟨a, ns, rfl, sa, q Fz ρ H _ Ext.refl rl (by rw [Rep])⟩
  · cases e
def cOr (o o' : List PV → Store → Option PV) : List PV → Store → Option PV := fun xs st => match o xs st with
  | some z => some z
  | none => o' xs st
theorem JC.or {f : Value} {o o'} (h : JC X f o) (h' : JC X f o') : JC X f (cOr o o') := by
  obtain ⟨r, hr, sr⟩ := h
  obtain ⟨r', hr', sr'⟩ := h'
  refine ⟨_, hr.or hr', fun Z Fz ρ st H vs ps pz Q rl rp e q => ?_⟩
  unfold cOr at e
  split at e
  · rename_i z ez
    cases e
    exact .inl (sr Z Fz ρ st H vs ps _ Q rl rp ez q)
  · exact .inr (sr' Z Fz ρ st H vs ps _ Q rl rp e q)
def oSumA := cOr oSum oSumT
theorem jc_sumA (hc : X.calm = true) : JC X (.builtin "sum") oSumA := (jc_sum hc).or (jc_sumT hc)
end Lq
end
section
set_option Elab.async false
set_option linter.all false
set_option maxRecDepth 100000
namespace Lq
open PySem PySem.Spec PyProof.Rows L2
variable {X : Cx} {E : XK} {a : Expr} {p pos : Pos} {fa : XE}
theorem repL_strs {K : PySem.W.Frag} {mg : Str → Option Value} {Fz : Hp} {ρ : List Addr} : ∀ xs : List Str, RepL K mg Fz ρ (xs.map PV.str) (xs.map V.str)
  | [] => by rw [List.map_nil, List.map_nil, RepL]
  | x :: r => by
    rw [List.map_cons, List.map_cons, RepL]
    exact ⟨_, _, rfl, by rw [Rep], repL_strs r⟩
end Lq
end
section
set_option Elab.async false
set_option linter.all false
set_option maxRecDepth 100000
namespace Lq
open PySem PySem.Spec PyProof.Rows L2
section
variable {prog : Program} {w : World} {A : Around} {R : Result → Shared → Prop} {I : Addr} {fp wr : List Addr} {G : Array GenState → Array GenState → Prop} {n : Nat} {P : Nat → Value → Prop} {St : Nat → Shared → Prop}
end
section
variable {prog : Program} {w : World} {A : Around} {E : Value → Shared → Prop} {s : Shared}
end
variable {X : Cx} {E : XK} {a : Expr} {fa : XE}
end Lq
end
section
set_option Elab.async false
set_option linter.all false
set_option maxRecDepth 100000
namespace Lq
open PySem PySem.Spec PyProof.Rows L2
section
variable {prog : Program} {w : World} {A : Around} {E : Value → Shared → Prop} {s : Shared} {l : Addr} {its : List Value} {ns : List Int} {Q : Value → Shared → Prop}
end
variable {X : Cx} {E : XK}
def sBar : XS := fun _ _ => .no
theorem jss_no {b : List Stmt} : JSs X E b sBar := ⟨fun _ _ _ => False, ⟨fun _ _ _ _ _ _ h => h.elim⟩, fun _ _ _ _ _ _ _ _ _ _ o => o⟩
end Lq
namespace Lq
open PySem PySem.Spec PyProof.Rows L2
variable {X : Cx}
end Lq
end
section
set_option Elab.async false
set_option linter.all false
set_option maxRecDepth 100000
namespace HT
open PySem PySem.Spec PyProof.Rows L2
section
variable {prog : Program} {w : World} {A : Around} {E : Value → Shared → Prop} {s : Shared}
end
end HT
namespace Lq
open PySem PySem.Spec PyProof.Rows L2
variable {X : Cx} {E : XK} {e o a : Expr} {fa fo : XE} {fl : XL} {p pos apos cpos : Pos}
theorem RepL.eraseIdx {K : PySem.W.Frag} {mg : Str → Option Value} {Fz : Hp} {ρ : List Addr} {ps : List PV} {vs : List V} (h : RepL K mg Fz ρ ps vs) (i : Nat) : RepL K mg Fz ρ (ps.eraseIdx i) (vs.eraseIdx i) := by
  rw [List.eraseIdx_eq_take_drop_succ, List.eraseIdx_eq_take_drop_succ]
  exact (h.take i).app (h.drop (i + 1))
end Lq
end
section
set_option Elab.async false
set_option linter.all false
set_option maxRecDepth 100000
namespace Lq
open PySem PySem.Spec PyProof.Rows L2
section
variable {fa : List He.Fa} {fn : List He.DefD} {q : Ask} {own : List Str} {K : PySem.W.Frag} {mg : Str → Option Value}
variable {X : Cx} {E : XK} {a b : Expr} {p p2 pos : Pos} {f g : XE} {x : Str}
end
section
variable {X : Cx} {E : XK}
end
end Lq
end
section
set_option Elab.async false
set_option linter.all false
set_option maxRecDepth 100000
namespace Lq
open PySem PySem.Spec PyProof.Rows L2
variable {X : Cx} {E : XK} {e : Expr} {fa : XE} {pos : Pos}
end Lq
end
section
set_option Elab.async false
set_option linter.all false
set_option maxRecDepth 100000
namespace Lq
open PySem PySem.Spec PyProof.Rows L2
section
variable {K : PySem.W.Frag} {mg : Str → Option Value}
end
section
variable {X : Cx} {E : XK} {a b elt : Expr} {p pos pos2 tpos : Pos} {ifs : List Expr} {scope : Scope} {own : List (Str × Nat)} {fl : XL} {ft : PV → Ev → Store → R Ev} {tt : Ev → Store → R Bool} {fe : XE} {elts : List Expr} {kk : Nat}
end
end Lq
end
section
set_option Elab.async false
set_option linter.all false
set_option maxRecDepth 100000
namespace Lq
open PySem PySem.Spec PyProof.Rows L2
variable {X : Cx} {E : XK} {e : Expr} {fa : XE} {pos : Pos}
def eDct : XE := fun _ st => .ok (.own st.length) (st ++ [.dct []])
theorem je_dct : JE X E (.Dict [] [] pos) eDct := by
  refine ⟨_, pe_dnewK, fun Z Fz ρ env st σ H Q rl hh o p hp => ?_⟩
  obtain ⟨rl2, ex2⟩ := rl.owned hp (o := .dK []) (c := .dct []) rfl ⟨[], upd_same, Nat.zero_le _, .nil⟩
  exact o _ _ _ ex2 rl2 _ (by rw [Rep]; exact ⟨p, by rw [← rl.len]; simp, rfl⟩)
end Lq
end
section
set_option Elab.async false
set_option linter.all false
set_option maxRecDepth 100000
namespace Lq
open PySem PySem.Spec PyProof.Rows L2
section
variable {prog : Program} {w : World} {A : Around} {E : Value → Shared → Prop} {s : Shared}
end
section
variable {X : Cx} {E : XK} {a : Expr} {ta : TE} {fa : XE}
end
end Lq
end
section
set_option Elab.async false
set_option linter.all false
set_option maxRecDepth 100000
namespace Lq
open PySem PySem.Spec PyProof.Rows L2
def keyOf : PV → Option Key
  | .int i => some (.inl i)
  | .str s => some (.inr s)
  | _ => none
def dLook (kvs : List (PV × PV)) (k : PV) : Option PV := (kvs.find? fun kv => peq kv.1 k).map (·.2)
def dPut (kvs : List (PV × PV)) (k v : PV) : List (PV × PV) :=
  if (kvs.any fun kv => peq kv.1 k) = true then kvs.map (fun kv => if peq kv.1 k = true then (kv.1, v) else kv) else kvs ++ [(k, v)]
theorem dPut_len (kvs : List (PV × PV)) (k v : PV) : (dPut kvs k v).length ≤ kvs.length + 1 := by
  unfold dPut
  split
  · rw [List.length_map]; omega
  · rw [List.length_append]; simp
theorem keyOf_P {p : PV} {k : Key} (h : keyOf p = some k) : KeyP p k := by
  cases p <;> simp [keyOf] at h <;> subst h <;> simp [KeyP]
theorem keyP_peq {p q : PV} {k j : Key} (h : KeyP p k) (h' : KeyP q j) : peq p q = decide (k = j) := by
  cases p <;> simp [KeyP] at h <;> subst h <;> cases q <;> simp [KeyP] at h' <;> subst h' <;> simp [peq]
  all_goals first | rfl | exact Bool.eq_iff_iff.mpr (by simp)
section
variable {K : PySem.W.Frag} {mg : Str → Option Value} {Z Fz : Hp} {ρ : List Addr} {st : Store} {H : Hp}
theorem keyP_V {p : PV} {k : Key} {v : V} (h : KeyP p k) (r : Rep K mg Fz ρ p v) : v = kV k := by
  cases p <;> simp [KeyP] at h <;> subst h <;> rw [Rep] at r <;> exact r
theorem repD_look {k : PV} {j : Key} (hk : KeyP k j) : ∀ {kvs : List (PV × PV)} {kv : List (Key × V)}, RepD K mg Fz ρ kvs kv →
    (∀ p, dLook kvs k = some p → ∃ v, valV kv j = some v ∧ Rep K mg Fz ρ p v) ∧ (dLook kvs k = none → valV kv j = none)
  | _, _, .nil => ⟨fun p e => by simp [dLook] at e, fun _ => rfl⟩
  | _, _, .cons (a := x) (b := y) (l₁ := xs) (l₂ := ys) h t => by
    obtain ⟨ih1, ih2⟩ := repD_look hk t
    have e : peq x.1 k = decide (y.1 = j) := keyP_peq h.1 hk
    unfold dLook at ih1 ih2 ⊢
    by_cases q : y.1 = j
    · rw [List.find?_cons, e, decide_eq_true q, valV_pos q]
      exact ⟨fun p ep => ⟨_, rfl, by cases ep; exact h.2⟩, fun z => by cases z⟩
    · rw [List.find?_cons, e, decide_eq_false q, valV_neg q]
      exact ⟨ih1, ih2⟩
theorem repD_any {k : PV} {j : Key} (hk : KeyP k j) : ∀ {kvs : List (PV × PV)} {kv : List (Key × V)}, RepD K mg Fz ρ kvs kv → (kvs.any fun z => peq z.1 k) = kv.any fun z => decide (z.1 = j)
  | _, _, .nil => rfl
  | _, _, .cons h t => by rw [List.any_cons, List.any_cons, repD_any hk t, keyP_peq h.1 hk]
theorem repD_map {k : PV} {j : Key} {p : PV} {v : V} (hk : KeyP k j) (rv : Rep K mg Fz ρ p v) : ∀ {kvs : List (PV × PV)} {kv : List (Key × V)}, RepD K mg Fz ρ kvs kv →
    RepD K mg Fz ρ (kvs.map fun z => if peq z.1 k = true then (z.1, p) else z) (kv.map fun z => if z.1 = j then (z.1, v) else z)
  | _, _, .nil => .nil
  | _, _, .cons (a := x) (b := y) h t => by
    rw [List.map_cons, List.map_cons]
    refine .cons ?_ (repD_map hk rv t)
    rw [keyP_peq h.1 hk]
    by_cases q : y.1 = j
    · rw [decide_eq_true q, if_pos rfl, if_pos q]; exact ⟨h.1, rv⟩
    · rw [decide_eq_false q, if_neg Bool.false_ne_true, if_neg q]; exact h
theorem repD_snoc {k : PV} {j : Key} {p : PV} {v : V} (hk : KeyP k j) (rv : Rep K mg Fz ρ p v) : ∀ {kvs : List (PV × PV)} {kv : List (Key × V)}, RepD K mg Fz ρ kvs kv → RepD K mg Fz ρ (kvs ++ [(k, p)]) (kv ++ [(j, v)])
  | _, _, .nil => .cons ⟨hk, rv⟩ .nil
  | _, _, .cons h t => .cons h (repD_snoc hk rv t)
theorem repD_put {k : PV} {j : Key} {p : PV} {v : V} (hk : KeyP k j) (rv : Rep K mg Fz ρ p v) {kvs : List (PV × PV)} {kv : List (Key × V)} (h : RepD K mg Fz ρ kvs kv) : RepD K mg Fz ρ (dPut kvs k p) (putK kv j v) := by
  unfold dPut putK
  rw [repD_any hk h]
  split
  · exact repD_map hk rv h
  · exact repD_snoc hk rv h
theorem repD_len {kvs : List (PV × PV)} {kv : List (Key × V)} (h : RepD K mg Fz ρ kvs kv) : kvs.length = kv.length := PySem.Paired.length h
def dctOf (st : Store) : PV → Option (List (PV × PV))
  | .own k => (match st[k]? with
    | some (.dct kvs) => some kvs
    | some (.dkf kvs) => some kvs
    | _ => none)
  | _ => none
theorem dctOf_ok {p : PV} {v : V} {kvs : List (PV × PV)} (r : Rel K mg Z Fz ρ st H) (h : Rep K mg Fz ρ p v) (e : dctOf st p = some kvs) : ∃ a kv, v = .ref a ∧ Rd H a (.dK kv) ∧ kvs.length ≤ sizeLine ∧ RepD K mg Fz ρ kvs kv := by
  cases p with
  | own k =>
    rw [Rep] at h
    obtain ⟨a, h1, h2⟩ := h
    unfold dctOf at e
    simp only at e
    split at e
    · rename_i ys ek
      cases e
      obtain ⟨kv, q1, q2, q3⟩ := r.cell k a _ h1 ek
      exact ⟨a, kv, h2, .inl q1, q2, q3⟩
    · rename_i ys ek
      cases e
      obtain ⟨od, kv, q1, q2, q3⟩ := r.cell k a _ h1 ek
      exact ⟨a, kv, h2, .inr ⟨od, r.fz _ _ q1⟩, q2, q3⟩
    · cases e
  | _ => cases e
end
def eDget (fd fk : XE) : XE := fun env st => (fd env st).bind fun d s1 => (fk env s1).bind fun k s2 => match dctOf s2 d, keyOf k with
  | some kvs, some _ => (match dLook kvs k with
    | some v => .ok v s2
    | none => .no)
  | _, _ => .no
def eDget2 (fd fk fx : XE) : XE := fun env st => (fd env st).bind fun d s1 => match dctOf s1 d with
  | none => .no
  | some _ => (fk env s1).bind fun k s2 => (fx env s2).bind fun x s3 => match dctOf s3 d, keyOf k with
    | some kvs, some _ => .ok ((dLook kvs k).getD x) s3
    | _, _ => .no
def sDput (fd fk fv : XE) : XS := fun env st => (fv env st).bind fun v s1 => (fd env s1).bind fun d s2 => (fk env s2).bind fun k s3 => match d, keyOf k with
  | .own n, some _ => (match s3[n]? with
    | some (.dct kvs) => if kvs.length < sizeLine then .ok (.nx env) (s3.set n (.dct (dPut kvs k v))) else .no
    | _ => .no)
  | _, _ => .no
section
variable {X : Cx} {E : XK} {o i e f value : Expr} {fd fk fx fv fa : XE} {pos pos' apos cpos p : Pos}
theorem je_dget (hu : X.A.units + 1 < cLine) (ho : JE X E o fd) (hi : JE X E i fk) (hs : NoSl i := by exact fun _ _ => rfl) : JE X E (.Subscript o i pos) (eDget fd fk) := by
  obtain ⟨ta, pa, sa⟩ := ho
  obtain ⟨tb, pb, sb⟩ := hi
  refine ⟨_, pe_dget hu pa pb hs, fun Z Fz ρ env st σ H Q rl h o => ?_⟩
  refine sa Z Fz ρ env st σ H _ rl h (o.seq.mono fun x s1 F1 r1 H1 _ ex1 rl1 o1 x' rx => ?_)
  refine sb Z F1 r1 env s1 σ H1 _ rl1 (h.mono ex1) (o1.seq.mono fun y s2 F2 r2 H2 _ ex2 rl2 o2 y' ry => ?_)
  split at o2
  · rename_i kvs j e1 e2
    split at o2
    · rename_i v ev
      obtain ⟨a, kv, rfl, q1, q2, q3⟩ := dctOf_ok rl2 (rx.mono ex2) e1
      have hk := keyOf_P e2
      obtain ⟨w, ew, rw'⟩ := (repD_look hk q3).1 v ev
      exact ⟨a, w, rfl, .inl ⟨kv, j, q1, keyP_V hk ry, ew.symm⟩, o2.here rl2 _ rw'⟩
    · exact o2.elim
  · exact o2.elim
theorem je_dget2 (hu : X.A.units + 1 < cLine) (ho : JE X E o fd) (he : JE X E e fk) (hf : JE X E f fx) (base : attributeBase o "get" X.env (eval o X.env) = eval o X.env := by rfl)
    (few : ((backTo cpos (starEach [e, f] X.env)).all (fun x => !x.1) && (backToKw cpos (keywordEach [] X.env)).all (fun x => x.1.isSome)
    && decide (([e, f] : List Expr).length + ([] : List Keyword).length + (if ([] : List Keyword).isEmpty then 0 else 1) < 30)) = true := by rfl)
    (line : (apos.endLine == cpos.line) = true := by rfl) (trees : backTo cpos (starEach [e, f] X.env) = [(false, eval e X.env), (false, eval f X.env)] := by rfl) : JE X E (.Call (.Attribute o "get" apos) [e, f] [] cpos) (eDget2 fd fk fx) := by
  obtain ⟨ta, pa, sa⟩ := ho
  obtain ⟨tb, pb, sb⟩ := he
  obtain ⟨tc, pc, sc⟩ := hf
  refine ⟨_, pe_dget2 hu pa pb pc ⟨base, few, line, trees⟩, fun Z Fz ρ env st σ H Q rl h o => ?_⟩
  refine sa Z Fz ρ env st σ H _ rl h (o.seq.mono fun x s1 F1 r1 H1 _ ex1 rl1 o1 x' rx => ?_)
  split at o1
  · exact o1.elim
  · rename_i kvs0 e0
    obtain ⟨a, kv0, rfl, q0, _, _⟩ := dctOf_ok rl1 rx e0
    refine ⟨a, rfl, .inl ⟨kv0, q0⟩, ?_⟩
    refine sb Z F1 r1 env s1 σ H1 _ rl1 (h.mono ex1) (o1.seq.mono fun y s2 F2 r2 H2 _ ex2 rl2 o2 y' ry => ?_)
    refine sc Z F2 r2 env s2 σ H2 _ rl2 ((h.mono ex1).mono ex2) (o2.seq.mono fun z s3 F3 r3 H3 _ ex3 rl3 o3 z' rz => ?_)
    split at o3
    · rename_i kvs j e1 e2
      obtain ⟨a', kv, ea, q1, q2, q3⟩ := dctOf_ok rl3 (rx.mono (ex2.trans ex3)) e1
      cases ea
      have hk := keyOf_P e2
      refine ⟨valV kv j, .inl ⟨kv, j, q1, keyP_V hk ry, rfl⟩, o3.here rl3 _ ?_⟩
      obtain ⟨k1, k2⟩ := repD_look hk q3
      cases q : dLook kvs y with
      | none => rw [k2 q]; exact rz
      | some v =>
        obtain ⟨w, ew, rw'⟩ := k1 v q
        rw [ew]; exact rw'
    · exact o3.elim
theorem js_dput (hu : X.A.units + 1 < cLine) (ho : JE X E o fd) (hi : JE X E i fk) (hv : JE X E value fv) (hs : swapsWith value (some (.Subscript o i pos')) pos.line X.env = pure false := by rfl) :
    JS X E (.Assign [.Subscript o i pos'] value pos) (sDput fd fk fv) := by
  obtain ⟨ta, pa, sa⟩ := ho
  obtain ⟨tb, pb, sb⟩ := hi
  obtain ⟨tc, pc, sc⟩ := hv
  refine ⟨_, ps_dput hu pa pb pc hs, fun Z Fz ρ env st σ H D rl h o => ?_⟩
  refine sc Z Fz ρ env st σ H _ rl h (o.seq.mono fun v s1 F1 r1 H1 _ ex1 rl1 o1 v' rv => ?_)
  refine sa Z F1 r1 env s1 σ H1 _ rl1 (h.mono ex1) (o1.seq.mono fun x s2 F2 r2 H2 _ ex2 rl2 o2 x' rx => ?_)
  refine sb Z F2 r2 env s2 σ H2 _ rl2 ((h.mono ex1).mono ex2) (o2.seq.mono fun y s3 F3 r3 H3 hq ex3 rl3 o3 y' ry => ?_)
  clear hq
  split at o3
  · rename_i n j e2 _
    split at o3
    · rename_i kvs ek
      split at o3
      · rename_i hl
        replace rx := rx.mono ex3
        rw [Rep] at rx
        obtain ⟨a, ea, rfl⟩ := rx
        obtain ⟨kv, h1, h2, h3⟩ := rl3.cell n a _ ea ek
        have hk := keyOf_P e2
        have hz : kv.length < sizeLine := by rw [← repD_len h3]; exact hl
        refine ⟨a, _, rfl, .inl ⟨kv, j, h1, keyP_V hk ry, hz, rfl⟩, ?_⟩
        have hc : CellOk X.K X.mg F3 r3 (upd H3 a (.dK (putK kv j v'))) a (.dct (dPut kvs y v)) :=
          ⟨_, upd_same, by have := dPut_len kvs y v; omega, repD_put hk (rv.mono (ex2.trans ex3)) h3⟩
        exact o3 F3 r3 _ Ext.refl (rl3.write ea ek rfl rfl hc) σ (((h.mono ex1).mono ex2).mono ex3)
      · exact o3.elim
    · exact o3.elim
  · exact o3.elim
def insI (x : Int) : List Int → List Int
  | [] => [x]
  | y :: r => if y < x then y :: insI x r else x :: y :: r
def srtI : List Int → List Int
  | [] => []
  | x :: r => insI x (srtI r)
theorem insI_perm (x : Int) : ∀ l, (insI x l).Perm (x :: l)
  | [] => List.Perm.refl _
  | y :: r => by
    rw [insI]
    split
    · exact ((insI_perm x r).cons y).trans (List.Perm.swap x y r)
    · exact List.Perm.refl _
theorem srtI_perm : ∀ l, (srtI l).Perm l
  | [] => List.Perm.refl _
  | x :: xs => (insI_perm x _).trans ((srtI_perm xs).cons x)
theorem insI_srt (x : Int) : ∀ l : List Int, l.Pairwise (· ≤ ·) → (insI x l).Pairwise (· ≤ ·)
  | [], _ => by simp [insI]
  | y :: r, h => by
    rw [List.pairwise_cons] at h
    rw [insI]
    split
    · rename_i hyx
      rw [List.pairwise_cons]
      refine ⟨fun z hz => ?_, insI_srt x r h.2⟩
      rcases List.mem_cons.mp ((insI_perm x r).mem_iff.mp hz) with e | e
      · omega
      · exact h.1 z e
    · rename_i hyx
      rw [List.pairwise_cons]
      refine ⟨fun z hz => ?_, List.pairwise_cons.mpr h⟩
      rcases List.mem_cons.mp hz with e | e
      · omega
      · have := h.1 z e; omega
theorem srtI_srt : ∀ l : List Int, (srtI l).Pairwise (· ≤ ·)
  | [] => by simp [srtI]
  | x :: r => insI_srt x _ (srtI_srt r)
theorem srtI_uniq {l ys : List Int} (h : ys.Perm l) (h' : ys.Pairwise (· ≤ ·)) : ys = srtI l :=
  List.Perm.eq_of_pairwise (le := (· ≤ ·)) (fun a b _ _ h1 h2 => Int.le_antisymm h1 h2) h' (srtI_srt l) (h.trans (srtI_perm l).symm)
def ans3 : List Str := ["<", "=", ">"]
def strsOf : List PV → Option (List Str)
  | [] => some []
  | .str z :: r => (strsOf r).map (z :: ·)
  | _ :: _ => none
theorem strsOf_eq : ∀ {xs : List PV} {zs : List Str}, strsOf xs = some zs → xs = zs.map PV.str
  | [], ns, h => by cases h; rfl
  | x :: r, ns, h => by
    cases x <;> first | (simp [strsOf] at h; done) | skip
    rename_i i
    cases e : strsOf r with
    | none => simp [strsOf, e] at h
    | some ms =>
      have : ns = i :: ms := by simp [strsOf, e] at h; exact h.symm
      subst this
      rw [strsOf_eq e]; rfl
def okAns (zs : List Str) : Bool := zs.all fun z => ans3.contains z
def ansI (z : Str) : Int := if z = "<" then 0 else if z = "=" then 1 else 2
def ansS (i : Int) : Str := if i = 0 then "<" else if i = 1 then "=" else ">"
theorem ans_three {z : Str} (h : ans3.contains z = true) : z = "<" ∨ z = "=" ∨ z = ">" := by
  unfold ans3 at h
  simpa using h
theorem ans_back {z : Str} (h : ans3.contains z = true) : ansS (ansI z) = z := by
  rcases ans_three h with e | e | e <;> subst e <;> decide
theorem ans_le {a b : Str} (ha : ans3.contains a = true) (hb : ans3.contains b = true) (h : ltCps b.cps.toList a.cps.toList = false) : ansI a ≤ ansI b := by
  rcases ans_three ha with e | e | e <;> subst e <;> rcases ans_three hb with e | e | e <;> subst e <;> revert h <;> decide
theorem rising_ans : ∀ (r : List Str) (p : Str), ans3.contains p = true → okAns r = true → risingS p r = true → ((p :: r).map ansI).Pairwise (· ≤ ·)
  | [], p, _, _, _ => by simp
  | x :: r, p, hp, ho, h => by
    unfold okAns at ho
    rw [List.all_cons, Bool.and_eq_true] at ho
    rw [risingS, Bool.and_eq_true, Bool.not_eq_true'] at h
    have ih := rising_ans r x ho.1 ho.2 h.2
    have hle := ans_le hp ho.1 h.1
    rw [List.map_cons] at ih ⊢
    rw [List.pairwise_cons]
    refine ⟨fun z hz => ?_, ih⟩
    rw [List.map_cons] at hz
    rcases List.mem_cons.mp hz with e | e
    · omega
    · have := (List.pairwise_cons.mp ih).1 z e; omega
def srtS (zs : List Str) : List Str := (srtI (zs.map ansI)).map ansS
theorem srtS_uniq {zs ys : List Str} (ho : okAns zs = true) (h : ys.Perm zs) (h' : sortedS ys = true) : ys = srtS zs := by
  have hy : okAns ys = true := by
    unfold okAns at ho ⊢
    rw [List.all_eq_true] at ho ⊢
    exact fun z hz => ho z (h.mem_iff.mp hz)
  have hp : (ys.map ansI).Pairwise (· ≤ ·) := by
    cases ys with
    | nil => simp
    | cons p r =>
      unfold okAns at hy
      rw [List.all_cons, Bool.and_eq_true] at hy
      exact rising_ans r p hy.1 hy.2 h'
  have e := srtI_uniq (h.map ansI) hp
  unfold srtS
  rw [← e, List.map_map]
  have : ∀ z ∈ ys, (ansS ∘ ansI) z = z := fun z hz => ans_back (by unfold okAns at hy; exact List.all_eq_true.mp hy z hz)
  rw [List.map_congr_left this, List.map_id']
def fSortK (f : XE) : XL := fun env st => (f env st).bind fun d s => match dctOf s d with
  | some kvs => if kvs.length < 64 then (match asInts (kvs.map (·.1)) with
    | some ns => .ok ((srtI ns).map PV.int) s
    | none => (match strsOf (kvs.map (·.1)) with
      | some zs => if okAns zs = true then .ok ((srtS zs).map PV.str) s else .no
      | none => .no)) else .no
  | none => .no
theorem keys_ints {K : PySem.W.Frag} {mg : Str → Option Value} {Fz : Hp} {ρ : List Addr} : ∀ {ns : List Int} {kvs : List (PV × PV)} {kv : List (Key × V)}, RepD K mg Fz ρ kvs kv → kvs.map (·.1) = ns.map PV.int → kv.map (·.1) = ns.map Sum.inl
  | ns, _, _, .nil, h => by
    cases ns with
    | nil => rfl
    | cons => simp at h
  | ns, _, _, .cons (a := x) (b := y) q t, h => by
    cases ns with
    | nil => simp at h
    | cons n r =>
      rw [List.map_cons, List.map_cons, List.cons.injEq] at h
      rw [List.map_cons, List.map_cons, keys_ints t h.2]
      have := q.1
      rw [h.1] at this
      rw [show y.1 = Sum.inl n from this]
theorem keys_strs {K : PySem.W.Frag} {mg : Str → Option Value} {Fz : Hp} {ρ : List Addr} : ∀ {ns : List Str} {kvs : List (PV × PV)} {kv : List (Key × V)}, RepD K mg Fz ρ kvs kv → kvs.map (·.1) = ns.map PV.str → kv.map (·.1) = ns.map Sum.inr
  | ns, _, _, .nil, h => by
    cases ns with
    | nil => rfl
    | cons => simp at h
  | ns, _, _, .cons (a := x) (b := y) q t, h => by
    cases ns with
    | nil => simp at h
    | cons n r =>
      rw [List.map_cons, List.map_cons, List.cons.injEq] at h
      rw [List.map_cons, List.map_cons, keys_strs t h.2]
      have := q.1
      rw [h.1] at this
      rw [show y.1 = Sum.inr n from this]
theorem jf_sortK (hc : X.calm = true) (ha : JE X E o fa) (hm : X.mg "sorted" = none) (hg : Gl X "sorted" := by rfl)
    (he : starEach [o] X.env = (false, eval o X.env) :: starEach [] X.env := by rfl) (hpl : (backTo pos (starEach [] X.env)).any (·.1) = false := by rfl) : JF X E (.Call (.Name "sorted" p) [o] [] pos) (fSortK fa) := by
  obtain ⟨t, pt, s⟩ := ha
  refine ⟨_, pe_callB (CallR.or (call_sortedDI hc) (call_sortedD hc)) hg hm (by decide +kernel) (pa_cons pt pa_nil he) (he := he) (hpl := hpl), fun Z Fz ρ env st σ H Q rl hh o => ?_⟩
  refine s Z Fz ρ env st σ H _ rl hh (o.seq.mono fun x s1 F1 r1 H1 _ ex1 rl1 o1 x' rx => ?_)
  split at o1
  · rename_i kvs e1
    obtain ⟨a, kv, rfl, q1, q2, q3⟩ := dctOf_ok rl1 rx e1
    split at o1
    · rename_i h64
      split at o1
      · rename_i ns en
        have ek := asInts_eq en
        have ln : ns.length = kvs.length := by have := congrArg List.length ek; simpa using this.symm
        refine .inl ⟨a, kv, ns, rfl, q1, keys_ints q3 ek, by omega, fun ys p hp hs hn => ?_⟩
        rw [srtI_uniq hp hs]
        exact o1.here rl1 p _ hn (by rw [List.length_map, (srtI_perm ns).length_eq, ln]; exact q2) (RepL.ints _)
      · split at o1
        · rename_i zs en
          split at o1
          · rename_i ho
            have ek := strsOf_eq en
            have ln : zs.length = kvs.length := by have := congrArg List.length ek; simpa using this.symm
            refine .inr ⟨a, kv, zs, rfl, q1, keys_strs q3 ek, by omega, fun ys p hp hs hn => ?_⟩
            rw [srtS_uniq ho hp hs]
            exact o1.here rl1 p _ hn (by unfold srtS; rw [List.length_map, List.length_map, (srtI_perm _).length_eq, List.length_map, ln]; exact q2) (repL_strs _)
          · exact o1.elim
        · exact o1.elim
    · exact o1.elim
  · exact o1.elim
end
section
variable {K : PySem.W.Frag} {mg : Str → Option Value} {Z Fz : Hp} {ρ : List Addr} {st : Store} {H : Hp}
theorem Rel.lockD (r : Rel K mg Z Fz ρ st H) {k : Nat} {a : Addr} {c c' : Cell} {u : HO} (e : ρ[k]? = some a) (e0 : st[k]? = some c) (hl : c.live = true) (o : HO)
    (hc : CellOk K mg (upd Fz a o) ρ (upd H a o) a c') (hl' : c'.live = false) : Rel K mg Z (upd Fz a o) ρ (st.set k c') (upd H a o) ∧ Ext Fz ρ (upd Fz a o) ρ := by
  have hf := r.apart k a _ e e0 hl
  have hk : k < st.length := (List.getElem?_eq_some_iff.mp e0).1
  have ex : Ext Fz ρ (upd Fz a o) ρ := ⟨fun b u q => by rw [upd_ne (fun z => by subst z; rw [hf] at q; cases q)]; exact q, List.prefix_refl _⟩
  refine ⟨⟨fun b u q => ?_, fun b u q => ?_, by simp [r.len], fun j b x e1 e2 => ?_, fun j b x e1 e2 e3 => ?_, r.nd⟩, ex⟩
  · obtain ⟨z1, z2, z3⟩ := r.zf b u q
    have hba : b ≠ a := fun z => z3 (by rw [z]; exact List.mem_of_getElem? e)
    exact ⟨by rw [upd_ne hba]; exact z1, by rw [upd_ne hba]; exact z2, z3⟩
  · by_cases hb : b = a
    · subst hb; rw [upd_same] at q ⊢; exact q
    · rw [upd_ne hb] at q ⊢; exact r.fz _ _ q
  · by_cases hj : j = k
    · subst hj
      rw [List.getElem?_set_self hk] at e2
      rw [e] at e1; cases e1; cases e2
      exact hc
    · rw [List.getElem?_set_ne (fun z => hj z.symm)] at e2
      have hba : b ≠ a := fun z => by subst z; exact hj (nodup_ix r.nd e1 e)
      exact (r.cell j b x e1 e2).mono ex fun u q => by rw [upd_ne hba]; exact q
  · by_cases hj : j = k
    · subst hj
      rw [List.getElem?_set_self hk] at e2
      cases e2; rw [hl'] at e3; cases e3
    · rw [List.getElem?_set_ne (fun z => hj z.symm)] at e2
      have hba : b ≠ a := fun z => by subst z; exact hj (nodup_ix r.nd e1 e)
      rw [upd_ne hba]; exact r.apart j b x e1 e2 e3
end
section
variable {X : Cx} {E : XK} {o : Expr} {fa : XE} {tg : Expr}
def tFrzD (t : TE) : TE := fun σ H Q => t σ H fun x H1 => (∃ d u, x = .ref d ∧ H1 d = some u ∧ Mut (some u) ∧ ∀ od, Q x (upd H1 d (.frz od u))) ∨ Q x H1
theorem pe_frzD {t : TE} (h : PE X o t) : PE X o (tFrzD t) := by
  refine ⟨fun pins s σ H Q I hw => ?_⟩
  refine thn (h.run pins s σ H _ I hw) fun v s1 ⟨x, H1, I1, r, q⟩ => ?_
  rcases q with ⟨d, u, rfl, hd, mu, q⟩ | q
  · obtain ⟨od, I2⟩ := I1.lock hd mu
    exact ⟨.ref d, _, I2, r, q od⟩
  · exact ⟨x, H1, I1, r, q⟩
def eFrzD (f : XE) : XE := fun env st => (f env st).bind fun d s => match d with
  | .own k => (match s[k]? with
    | some (.dct kvs) => .ok d (s.set k (.dkf kvs))
    | some (.dcn kvs) => .ok d (s.set k (.dnf kvs))
    | some (.dkf _) => .ok d s
    | some (.dnf _) => .ok d s
    | _ => .no)
  | _ => .no
theorem je_frzD (h : JE X E o fa) : JE X E o (eFrzD fa) := by
  obtain ⟨t, pt, s⟩ := h
  refine ⟨_, pe_frzD pt, fun Z Fz ρ env st σ H Q rl re o => ?_⟩
  refine s Z Fz ρ env st σ H _ rl re (o.seq.mono fun x s1 F1 r1 H1 hq ex1 rl1 o1 x' rx => ?_)
  clear hq
  split at o1
  · rename_i k
    have rx' := rx
    rw [Rep] at rx
    obtain ⟨a, ea, rfl⟩ := rx
    split at o1
    · rename_i kvs ek
      obtain ⟨kv, h1, h2, h3⟩ := rl1.cell k a _ ea ek
      refine .inl ⟨a, _, rfl, h1, trivial, fun od => ?_⟩
      have hf := rl1.apart k a _ ea ek rfl
      have ex : Ext F1 r1 (upd F1 a (.frz od (.dK kv))) r1 := ⟨fun b u q => by rw [upd_ne (fun z => by subst z; rw [hf] at q; cases q)]; exact q, List.prefix_refl _⟩
      obtain ⟨rl2, ex2⟩ := Rel.lockD (u := .dK kv) rl1 ea ek rfl (.frz od (.dK kv)) (c' := .dkf kvs) ⟨od, kv, upd_same, h2, L2.Paired.mapP h3 fun _ _ z => ⟨z.1, z.2.mono ex⟩⟩ rfl
      exact o1 _ _ _ ex2 rl2 _ (rx'.mono ex2)
    · rename_i kvs ek
      obtain ⟨xs, h1, h2, h3, h4, h5⟩ := rl1.cell k a _ ea ek
      refine .inl ⟨a, _, rfl, h1, trivial, fun od => ?_⟩
      have hf := rl1.apart k a _ ea ek rfl
      have ex : Ext F1 r1 (upd F1 a (.frz od (NdO a xs))) r1 := ⟨fun b u q => by rw [upd_ne (fun z => by subst z; rw [hf] at q; cases q)]; exact q, List.prefix_refl _⟩
      obtain ⟨rl2, ex2⟩ := Rel.lockD (u := NdO a xs) rl1 ea ek rfl (.frz od (NdO a xs)) (c' := .dnf kvs) ⟨od, xs, upd_same, h2, ⟨h3.1, L2.Paired.mapP h3.2 fun _ _ z => ⟨z.1, z.2.1.mono ex, z.2.2.mono ex⟩⟩, h4, h5⟩ rfl
      exact o1 _ _ _ ex2 rl2 _ (rx'.mono ex2)
    · exact .inr (o1.here rl1 _ rx')
    · exact .inr (o1.here rl1 _ rx')
    · exact o1.elim
  · exact o1.elim
end
end Lq
end
section
set_option Elab.async false
set_option linter.all false
set_option maxRecDepth 100000
namespace Lq
open PySem PySem.Spec PyProof.Rows L2
mutual
/-- a value that is such a key -/
def KyV (K : PySem.W.Frag) (H : Hp) : NestedKey → V → Prop
  | .num i, v => v = .int i
  | .tup ks, v => ∃ a vs, v = .ref a ∧ SqT K H a vs ∧ KyVs K H ks vs
  | .none, _ => False
  | .text _, _ => False
def KyVs (K : PySem.W.Frag) (H : Hp) : List NestedKey → List V → Prop
  | [], vs => vs = []
  | k :: ks, vs => ∃ v r, vs = v :: r ∧ KyV K H k v ∧ KyVs K H ks r
end
mutual
theorem kyv_of {K : PySem.W.Frag} {mg : Str → Option Value} {Fz H : Hp} {ρ : List Addr} (hf : ∀ a o, Fz a = some o → H a = some o) : ∀ (p : PV) (k : NestedKey) (v : V), nkOf p = some k → Rep K mg Fz ρ p v → KyV K H k v
  | .int i, k, v, e, r => by
    rw [nkOf] at e
    cases e
    rw [Rep] at r
    rw [KyV]; exact r
  | .tup xs, k, v, e, r => by
    rw [nkOf] at e
    cases q : nksOf xs with
    | none => rw [q] at e; cases e
    | some ks =>
      rw [q] at e
      cases e
      rw [Rep] at r
      obtain ⟨a, vs, rfl, h1, h2, h3⟩ := r
      rw [KyV]
      exact ⟨a, vs, rfl, sqT_mono hf h1, kyvs_of hf xs ks vs q h3⟩
  | .non, _, _, e, _ => by simp [nkOf] at e
  | .bl _, _, _, e, _ => by simp [nkOf] at e
  | .str _, _, _, e, _ => by simp [nkOf] at e
  | .lst _, _, _, e, _ => by simp [nkOf] at e
  | .scr _, _, _, e, _ => by simp [nkOf] at e
  | .own _, _, _, e, _ => by simp [nkOf] at e
  | .glo _, _, _, e, _ => by simp [nkOf] at e
theorem kyvs_of {K : PySem.W.Frag} {mg : Str → Option Value} {Fz H : Hp} {ρ : List Addr} (hf : ∀ a o, Fz a = some o → H a = some o) : ∀ (ps : List PV) (ks : List NestedKey) (vs : List V), nksOf ps = some ks → RepL K mg Fz ρ ps vs → KyVs K H ks vs
  | [], ks, vs, e, r => by
    rw [nksOf] at e
    cases e
    rw [RepL] at r
    rw [KyVs]; exact r
  | p :: ps, ks, vs, e, r => by
    rw [nksOf] at e
    split at e
    · rename_i k ks' e1 e2
      cases e
      rw [RepL] at r
      obtain ⟨v, w, rfl, r1, r2⟩ := r
      rw [KyVs]
      exact ⟨v, w, rfl, kyv_of hf p k v e1 r1, kyvs_of hf ps ks' w e2 r2⟩
    · cases e
end
section
variable {X : Cx} {pins : List (Addr × Obj)} {σ : L2.St} {H : Hp} {s : Shared}
mutual
theorem nested_of (I : Inv X pins σ H s) : ∀ (k : NestedKey) (v : V) (u : Value), KyV X.K H k v → RelV v u → NestedIs s.heap k u
  | .num i, v, u, h, r => by
    rw [KyV] at h
    subst h
    obtain ⟨t, rfl⟩ := r
    exact .int i t
  | .tup ks, v, u, h, r => by
    rw [KyV] at h
    obtain ⟨a, vs, rfl, h1, h2⟩ := h
    obtain rfl : u = Value.ref a := r
    obtain ⟨its, rv, ⟨o, e1, e2, n, e3⟩, _⟩ := I.tuple h1
    exact .tup e1 e2 e3 (by simpa using nesteds_of I ks vs its h2 rv)
  | .none, _, _, h, _ => by rw [KyV] at h; exact h.elim
  | .text _, _, _, h, _ => by rw [KyV] at h; exact h.elim
theorem nesteds_of (I : Inv X pins σ H s) : ∀ (ks : List NestedKey) (vs : List V) (us : List Value), KyVs X.K H ks vs → Vals vs us → NestedAll s.heap ks us
  | [], vs, us, h, r => by
    rw [KyVs] at h
    subst h
    cases r
    exact .nil
  | k :: ks, vs, us, h, r => by
    rw [KyVs] at h
    obtain ⟨v, w, rfl, h1, h2⟩ := h
    cases r with
    | cons r1 r2 => exact .cons (nested_of I k v _ h1 r1) (nesteds_of I ks w _ h2 r2)
end
end
mutual
theorem kyv_hash {K : PySem.W.Frag} {H : Hp} (w w' : World) : ∀ (k : NestedKey) (v : V), KyV K H k v → k.hash w = k.hash w'
  | .num i, v, h => by rw [NestedKey.hash, NestedKey.hash]
  | .tup ks, v, h => by
    rw [KyV] at h
    obtain ⟨a, vs, _, _, h2⟩ := h
    rw [NestedKey.hash, NestedKey.hash, kyvs_hash w w' ks vs h2]
  | .none, _, h => by rw [KyV] at h; exact h.elim
  | .text _, _, h => by rw [KyV] at h; exact h.elim
theorem kyvs_hash {K : PySem.W.Frag} {H : Hp} (w w' : World) : ∀ (ks : List NestedKey) (vs : List V), KyVs K H ks vs → NestedKey.hashes w ks = NestedKey.hashes w' ks
  | [], _, _ => by rw [NestedKey.hashes, NestedKey.hashes]
  | k :: ks, vs, h => by
    rw [KyVs] at h
    obtain ⟨v, r, _, h1, h2⟩ := h
    rw [NestedKey.hashes, NestedKey.hashes, kyv_hash w w' k v h1, kyvs_hash w w' ks r h2]
end
structure NdR (K : PySem.W.Frag) (H : Hp) (a : Addr) (xs : List (NestedKey × Addr × V)) : Prop where
  rd : Rd H a (NdO a xs)
  sm : (a == sysModules) = false
  nd : (xs.map (·.1)).Nodup
  ky : ∀ x ∈ xs, KyV K H x.1 (.ref x.2.1) ∧ x.1.depth ≤ 8
abbrev NdP : List (NestedKey × Addr × V) → List (NestedKey × Addr × Value) → Prop := PySem.Paired fun x y => x.1 = y.1 ∧ x.2.1 = y.2.1 ∧ RelV x.2.2 y.2.2
def atN (xs : List (NestedKey × Addr × V)) (k : NestedKey) : Option V := (xs.find? fun x => decide (x.1 = k)).map (·.2.2)
def putN (xs : List (NestedKey × Addr × V)) (k : NestedKey) (b : Addr) (v : V) : List (NestedKey × Addr × V) :=
  if (xs.any fun x => decide (x.1 = k)) = true then xs.map (fun x => if x.1 = k then (x.1, x.2.1, v) else x) else xs ++ [(k, b, v)]
theorem ndp_at {k : NestedKey} : ∀ {xs : List (NestedKey × Addr × V)} {ys : List (NestedKey × Addr × Value)}, NdP xs ys → RelO (atN xs k) ((atKey ys k).map (·.2))
  | _, _, .nil => trivial
  | _, _, .cons (a := x) (b := y) (l₁ := xs) (l₂ := ys) h t => by
    have ih := ndp_at (k := k) t
    unfold atN atKey at ih ⊢
    rw [List.find?_cons, List.find?_cons, h.1]
    by_cases q : y.1 = k
    · rw [decide_eq_true q]; exact h.2.2
    · rw [decide_eq_false q]; exact ih
theorem ndp_any {k : NestedKey} : ∀ {xs : List (NestedKey × Addr × V)} {ys : List (NestedKey × Addr × Value)}, NdP xs ys → (xs.any fun x => decide (x.1 = k)) = (atKey ys k).isSome
  | _, _, .nil => rfl
  | _, _, .cons (a := x) (b := y) (l₁ := xs) (l₂ := ys) h t => by
    have ih := ndp_any (k := k) t
    unfold atKey at ih ⊢
    rw [List.any_cons, List.find?_cons, h.1]
    by_cases q : y.1 = k
    · rw [decide_eq_true q]; rfl
    · rw [decide_eq_false q, Bool.false_or]; exact ih
theorem ndp_map {k : NestedKey} {v : V} {u : Value} (r : RelV v u) : ∀ {xs : List (NestedKey × Addr × V)} {ys : List (NestedKey × Addr × Value)}, NdP xs ys → NdP (xs.map fun x => if x.1 = k then (x.1, x.2.1, v) else x) (ys.map (putAt k u))
  | _, _, .nil => .nil
  | _, _, .cons (a := x) (b := y) h t => by
    rw [List.map_cons, List.map_cons]
    refine .cons ?_ (ndp_map r t)
    unfold putAt
    by_cases q : y.1 = k
    · rw [if_pos q, if_pos (h.1.trans q)]; exact ⟨h.1, h.2.1, r⟩
    · rw [if_neg q, if_neg (fun z => q (h.1.symm.trans z))]; exact h
theorem ndp_snoc {k : NestedKey} {b : Addr} {v : V} {u : Value} (r : RelV v u) : ∀ {xs : List (NestedKey × Addr × V)} {ys : List (NestedKey × Addr × Value)}, NdP xs ys → NdP (xs ++ [(k, b, v)]) (ys ++ [(k, b, u)])
  | _, _, .nil => .cons ⟨rfl, rfl, r⟩ .nil
  | _, _, .cons h t => .cons h (ndp_snoc r t)
theorem ndp_put {k : NestedKey} {b : Addr} {v : V} {u : Value} (r : RelV v u) {xs : List (NestedKey × Addr × V)} {ys : List (NestedKey × Addr × Value)} (h : NdP xs ys) : NdP (putN xs k b v) (storedH ys k b u) := by
  unfold putN storedH
  rw [ndp_any h]
  split
  · exact ndp_map r h
  · exact ndp_snoc r h
theorem putN_mem {xs : List (NestedKey × Addr × V)} {k : NestedKey} {b : Addr} {v : V} {x : NestedKey × Addr × V} (h : x ∈ putN xs k b v) : (∃ y ∈ xs, x.1 = y.1 ∧ x.2.1 = y.2.1) ∨ (x.1 = k ∧ x.2.1 = b) := by
  unfold putN at h
  split at h
  · obtain ⟨y, hy, rfl⟩ := List.mem_map.mp h
    left
    refine ⟨y, hy, ?_⟩
    split <;> exact ⟨rfl, rfl⟩
  · rcases List.mem_append.mp h with h | h
    · exact .inl ⟨x, h, rfl, rfl⟩
    · rw [List.mem_singleton] at h
      subst h
      exact .inr ⟨rfl, rfl⟩
theorem ents_of {es : List DictEntry} : ∀ {xs : List (NestedKey × Addr × V)}, PySem.Paired (fun (e : DictEntry) (x : NestedKey × Addr × V) => (∀ w : World, e.hash = x.1.hash w) ∧ e.key = .ref x.2.1 ∧ RelV x.2.2 e.val) es xs →
    ∀ (P : Program) (w : World), ∃ ys, NdP xs ys ∧ es = ys.map (entryOfKey (nestedKind P w)) := by
  intro xs h P w
  induction h with
  | nil => exact ⟨[], .nil, rfl⟩
  | @cons e x es xs h t ih =>
    obtain ⟨ys, i1, i2⟩ := ih
    refine ⟨(x.1, x.2.1, e.val) :: ys, .cons ⟨rfl, rfl, h.2.2⟩ i1, ?_⟩
    rw [List.map_cons, ← i2]
    obtain ⟨eh, ek, ev⟩ := e
    have h1 : eh = x.1.hash w := h.1 w
    have h2 : ek = Value.ref x.2.1 := h.2.1
    subst h1
    subst h2
    rfl
theorem ents_back {K : PySem.W.Frag} {H : Hp} {P : Program} {w : World} : ∀ {xs : List (NestedKey × Addr × V)} {ys : List (NestedKey × Addr × Value)}, NdP xs ys → (∀ x ∈ xs, ∃ v, KyV K H x.1 v) →
    PySem.Paired (fun (e : DictEntry) (x : NestedKey × Addr × V) => (∀ w : World, e.hash = x.1.hash w) ∧ e.key = .ref x.2.1 ∧ RelV x.2.2 e.val) (ys.map (entryOfKey (nestedKind P w))) xs
  | _, _, .nil, _ => .nil
  | _, _, .cons (a := x) (b := y) h t, hk => by
    rw [List.map_cons]
    refine .cons ⟨fun w' => ?_, ?_, h.2.2⟩ (ents_back t fun z hz => hk z (List.mem_cons_of_mem _ hz))
    · obtain ⟨v, hv⟩ := hk x List.mem_cons_self
      show y.1.hash w = x.1.hash w'
      rw [← h.1]
      exact kyv_hash w w' x.1 v hv
    · show Value.ref y.2.1 = Value.ref x.2.1
      rw [h.2.1]
theorem ndo_ok {P : Program} {w : World} {H : Hp} {h : Heap} {a : Addr} {xs : List (NestedKey × Addr × V)} {o : Obj} {es : Array DictEntry} {ep : Nat} (e : h.get? a = some o) (hx : o.ExactDict) (hd : o.data = .dict es ep)
    (hp : PySem.Paired (fun (e : DictEntry) (x : NestedKey × Addr × V) => (∀ w : World, e.hash = x.1.hash w) ∧ e.key = .ref x.2.1 ∧ RelV x.2.2 e.val) es.toList xs) : ObjOk P w H h a (NdO a xs) :=
  ⟨⟨o, es, ep, e, hx, hd, hp⟩, ⟨o, e⟩, fun h1 h2 ⟨o', es', ep', q1, q2, q3, q4⟩ k => ⟨o', es', ep', k o' q1, q2, q3, q4⟩⟩
section
variable {X : Cx} {pins : List (Addr × Obj)} {σ : L2.St} {H : Hp} {s : Shared} {a b : Addr} {xs : List (NestedKey × Addr × V)} {k : NestedKey}
theorem kyIs (I : Inv X pins σ H s) (hk : KyV X.K H k (.ref b)) (hd : k.depth ≤ 8) : (nestedKind X.prog X.w).is s.heap k b := ⟨nested_of I k _ _ hk rfl, hd⟩
theorem kyRoom (hu : X.A.units + 64 < cLine) : (nestedKind X.prog X.w).room X.A.in1 := by show X.A.units + 1 + 8 < cLine; omega
theorem NdR.raw (h : NdR X.K H a xs) (I : Inv X pins σ H s) : ∃ o es ep, s.heap.get? a = some o ∧ o.ExactDict ∧ o.data = .dict es ep ∧
    PySem.Paired (fun (e : DictEntry) (x : NestedKey × Addr × V) => (∀ w : World, e.hash = x.1.hash w) ∧ e.key = .ref x.2.1 ∧ RelV x.2.2 e.val) es.toList xs := by
  have q : ObjOk X.prog X.w H s.heap a (NdO a xs) := h.rd.ok I.hok
  exact q.1
theorem NdR.dict (h : NdR X.K H a xs) (I : Inv X pins σ H s) : ∃ ys, NdP xs ys ∧ s.heap.DictOfH (nestedKind X.prog X.w) a ys := by
  obtain ⟨o, es, ep, e1, e2, e3, e4⟩ := h.raw I
  obtain ⟨ys, p1, p2⟩ := ents_of e4 X.prog X.w
  refine ⟨ys, p1, o, es, ep, e1, e2, e3, p2, ?_, ?_⟩
  · have all : ∀ {l : List (NestedKey × Addr × V)} {m : List (NestedKey × Addr × Value)}, NdP l m → (∀ x ∈ l, KyV X.K H x.1 (.ref x.2.1) ∧ x.1.depth ≤ 8) → ∀ y ∈ m, (nestedKind X.prog X.w).is s.heap y.1 y.2.1 := by
      intro l m q
      induction q with
      | nil => intro _ y hy; exact nomatch hy
      | @cons x y l m hq t ih =>
        intro hk z hz
        rcases List.mem_cons.mp hz with e | hz
        · subst e
          obtain ⟨k1, k2⟩ := hk x List.mem_cons_self
          rw [← hq.1, ← hq.2.1]
          exact ⟨nested_of I _ _ _ k1 rfl, k2⟩
        · exact ih (fun w hw => hk w (List.mem_cons_of_mem _ hw)) z hz
    exact all p1 h.ky
  · have nd := h.nd
    have e : xs.map (·.1) = ys.map (·.1) := by
      clear h e4 p2 nd
      induction p1 with
      | nil => rfl
      | cons hq t ih => rw [List.map_cons, List.map_cons, hq.1, ih]
    rw [← e]; exact nd
theorem ndp_len {ys : List (NestedKey × Addr × Value)} (h : NdP xs ys) : xs.length = ys.length := PySem.Paired.length h
def rInN (K : PySem.W.Frag) (neg : Bool) : R2 := fun x y H Q => ∃ a b xs k, y = .ref a ∧ x = .ref b ∧ NdR K H a xs ∧ KyV K H k (.ref b) ∧ k.depth ≤ 8 ∧ Q (.bl (if neg = true then !(atN xs k).isSome else (atN xs k).isSome)) H
theorem op_ninN (hu : X.A.units + 64 < cLine) : OpR X (compareOp .NotIn) (rInN X.K true) := by
  intro pins s σ H x y v u Q I rx ry h
  obtain ⟨a, b, xs, k, rfl, rfl, nd, hk, hd, q⟩ := h
  cases rx
  cases ry
  obtain ⟨ys, p1, dd⟩ := nd.dict I
  refine wpAny_notIn_heap (kyRoom hu) (kyIs I hk hd) nd.sm dd ?_
  have e := (ndp_at (k := k) p1).isSome_eq
  rw [Option.isSome_map] at e
  rw [← e]
  rw [if_pos rfl] at q
  exact ⟨.bl _, H, I.tok _, rfl, q⟩
def tNGet (K : PySem.W.Frag) (td ty : TE) : TE := fun σ H Q => td σ H fun x H1 => ty σ H1 fun y H2 => ∃ a b xs k v, x = .ref a ∧ y = .ref b ∧ NdR K H2 a xs ∧ KyV K H2 k (.ref b) ∧ k.depth ≤ 8 ∧ atN xs k = some v ∧ Q v H2
theorem pe_nget {o i : Expr} {pos : Pos} {td ty : TE} (hu : X.A.units + 64 < cLine) (ho : PE X o td) (hi : PE X i ty) (hs : NoSl i) : PE X (.Subscript o i pos) (tNGet X.K td ty) := by
  refine ⟨fun pins s σ H Q I h => ?_⟩
  refine subD_of PySem.F.slot_dict_getitem.lookup hs (thn (ho.run pins s σ H _ I h) fun u s1 ⟨x, H1, I1, rx, q1⟩ => thn (hi.run pins s1 σ H1 _ I1 q1) fun iv s2 ⟨y, H2, I2, ry, a, b, xs, k, v, ex, ey, nd, hk, hd, ev, q2⟩ => ?_)
  subst ex
  subst ey
  cases rx
  cases ry
  obtain ⟨ys, p1, dd⟩ := nd.dict I2
  refine ⟨dd.typeIs, ?_⟩
  have r := ndp_at (k := k) p1
  rw [ev] at r
  cases q : atKey ys k with
  | none => rw [q] at r; exact r.elim
  | some p =>
    rw [q] at r
    refine wpAny_getItem_heap (kyRoom hu) (kyIs I2 hk hd) dd q ?_
    exact ⟨v, H2, I2.tok _, r, q2⟩
def rPutN (K : PySem.W.Frag) : V → V → V → Hp → (Hp → Prop) → Prop := fun o i v H Q => ∃ a b xs k, o = .ref a ∧ i = .ref b ∧ H a = some (NdO a xs) ∧ NdR K H a xs ∧ KyV K H k (.ref b) ∧ k.depth ≤ 8 ∧ xs.length < sizeLine ∧ Q (upd H a (NdO a (putN xs k b v)))
theorem set_nd (hu : X.A.units + 64 < cLine) : PSet X (rPutN X.K) := by
  intro pins s σ H o i v ov iv u Q I ro ri rv h
  obtain ⟨a, b, xs, k, rfl, rfl, ha, nd, hk, hd, hl, q⟩ := h
  cases ro
  cases ri
  obtain ⟨ys, p1, dd⟩ := nd.dict I
  refine wpAny_setItem_heap (hsz := by rw [← ndp_len p1]; omega) (kyRoom hu) (kyIs I hk hd) dd fun h' dd' hs => ?_
  obtain ⟨o', es, ep, e1, e2, e3, e4, _, _⟩ := dd'
  refine ⟨_, d_write (t' := s.toks + (nestedKind X.prog X.w).draws k) I (by rw [ha]; exact True.intro) hs ⟨o', e1⟩ (ndo_ok e1 e2 e3 ?_), q⟩
  rw [e4]
  refine ents_back (K := X.K) (H := H) (ndp_put rv p1) fun x hx => ?_
  rcases putN_mem hx with ⟨y, hy, z1, z2⟩ | ⟨z1, z2⟩
  · rw [z1]; exact ⟨_, (nd.ky y hy).1⟩
  · rw [z1]; exact ⟨_, hk⟩
def tDNewN : TE := fun _ H Q => ∀ p, H p = none → (p == sysModules) = false → Q (.ref p) (upd H p (NdO p []))
theorem pe_dnewN {pos : Pos} : PE X (.Dict [] [] pos) tDNewN := ⟨fun pins s σ H Q I h =>
  wpAny_Dict_empty ⟨.ref s.heap.objs.size, _, I.laid (a := s.heap.objs.size) (o := NdO s.heap.objs.size []) (t' := s.toks) (fun _ _ q => Heap.get?_push_of_some _ q) (Nat.le_refl _)
    (ndo_ok (Heap.get?_push_size _ rfl) ⟨rfl, rfl, rfl⟩ rfl .nil), rfl, h _ (I.hok.fresh (Nat.le_refl _)) (beq_eq_false_iff_ne.mpr (Ne.symm (Nat.ne_of_lt I.big)))⟩⟩
end
end Lq
end
section
set_option Elab.async false
set_option linter.all false
set_option maxRecDepth 100000
namespace Lq
open PySem PySem.Spec PyProof.Rows L2
mutual
theorem nk_peq : ∀ (p q : PV) (k j : NestedKey), nkOf p = some k → nkOf q = some j → peq p q = NestedKey.beq k j
  | p, q, k, j, e, e' => by
    cases p <;> first | (simp [nkOf] at e; done) | skip
    · cases q <;> first | (simp [nkOf] at e'; done) | skip
      · rw [nkOf] at e; rw [nkOf] at e'
        cases e
        cases e'
        simp [peq, NestedKey.beq]
        rfl
      · rename_i i xs
        rw [nkOf] at e; rw [nkOf] at e'
        cases e
        cases w : nksOf xs with
        | none => rw [w] at e'; cases e'
        | some ks => rw [w] at e'; cases e'; simp [peq, NestedKey.beq]
    · rename_i xs
      rw [nkOf] at e
      cases w : nksOf xs with
      | none => rw [w] at e; cases e
      | some ks =>
        rw [w] at e
        cases e
        cases q <;> first | (simp [nkOf] at e'; done) | skip
        · rw [nkOf] at e'
          cases e'
          simp [peq, NestedKey.beq]
        · rename_i ys
          rw [nkOf] at e'
          cases w' : nksOf ys with
          | none => rw [w'] at e'; cases e'
          | some js =>
            rw [w'] at e'
            cases e'
            rw [peq, NestedKey.beq]
            exact nk_peqs xs ys ks js w w'
theorem nk_peqs : ∀ (ps qs : List PV) (ks js : List NestedKey), nksOf ps = some ks → nksOf qs = some js → peqs ps qs = NestedKey.beqAll ks js
  | [], [], ks, js, e, e' => by
    rw [nksOf] at e; rw [nksOf] at e'
    cases e
    cases e'
    simp [peqs, NestedKey.beqAll]
  | [], q :: qs, ks, js, e, e' => by
    rw [nksOf] at e; rw [nksOf] at e'
    cases e
    split at e'
    · cases e'
      simp [peqs, NestedKey.beqAll]
    · cases e'
  | p :: ps, [], ks, js, e, e' => by
    rw [nksOf] at e; rw [nksOf] at e'
    cases e'
    split at e
    · cases e
      simp [peqs, NestedKey.beqAll]
    · cases e
  | p :: ps, q :: qs, ks, js, e, e' => by
    rw [nksOf] at e; rw [nksOf] at e'
    split at e
    · rename_i k ks' a1 a2
      split at e'
      · rename_i j js' b1 b2
        cases e
        cases e'
        rw [peqs, NestedKey.beqAll, nk_peq p q k j a1 b1, nk_peqs ps qs ks' js' a2 b2]
      · cases e'
    · cases e
end
theorem nk_eq {p q : PV} {k j : NestedKey} (e : nkOf p = some k) (e' : nkOf q = some j) : peq p q = decide (k = j) := by rw [nk_peq p q k j e e', NestedKey.decide_eq]
section
variable {K : PySem.W.Frag} {mg : Str → Option Value} {Z Fz : Hp} {ρ : List Addr} {st : Store} {H : Hp}
abbrev RepN' (K : PySem.W.Frag) (mg : Str → Option Value) (Fz : Hp) (ρ : List Addr) : List (PV × PV) → List (NestedKey × Addr × V) → Prop :=
  PySem.Paired (fun (p : PV × PV) (x : NestedKey × Addr × V) => nkOf p.1 = some x.1 ∧ Rep K mg Fz ρ p.1 (.ref x.2.1) ∧ Rep K mg Fz ρ p.2 x.2.2)
theorem repN_look {k : PV} {j : NestedKey} (hk : nkOf k = some j) : ∀ {kvs : List (PV × PV)} {xs : List (NestedKey × Addr × V)}, RepN' K mg Fz ρ kvs xs →
    (∀ p, dLook kvs k = some p → ∃ v, atN xs j = some v ∧ Rep K mg Fz ρ p v) ∧ (dLook kvs k = none → atN xs j = none)
  | _, _, .nil => ⟨fun p e => by simp [dLook] at e, fun _ => rfl⟩
  | _, _, .cons (a := x) (b := y) (l₁ := xs) (l₂ := ys) h t => by
    obtain ⟨ih1, ih2⟩ := repN_look hk t
    have e : peq x.1 k = decide (y.1 = j) := nk_eq h.1 hk
    unfold dLook at ih1 ih2 ⊢
    unfold atN at ih1 ih2 ⊢
    rw [List.find?_cons, List.find?_cons, e]
    by_cases q : y.1 = j
    · rw [decide_eq_true q]
      exact ⟨fun p ep => ⟨_, rfl, by cases ep; exact h.2.2⟩, fun z => by cases z⟩
    · rw [decide_eq_false q]
      exact ⟨ih1, ih2⟩
theorem repN_any {k : PV} {j : NestedKey} (hk : nkOf k = some j) : ∀ {kvs : List (PV × PV)} {xs : List (NestedKey × Addr × V)}, RepN' K mg Fz ρ kvs xs → (kvs.any fun z => peq z.1 k) = xs.any fun z => decide (z.1 = j)
  | _, _, .nil => rfl
  | _, _, .cons h t => by rw [List.any_cons, List.any_cons, repN_any hk t, nk_eq h.1 hk]
theorem repN_map {k : PV} {j : NestedKey} {p : PV} {v : V} (hk : nkOf k = some j) (rv : Rep K mg Fz ρ p v) : ∀ {kvs : List (PV × PV)} {xs : List (NestedKey × Addr × V)}, RepN' K mg Fz ρ kvs xs →
    RepN' K mg Fz ρ (kvs.map fun z => if peq z.1 k = true then (z.1, p) else z) (xs.map fun x => if x.1 = j then (x.1, x.2.1, v) else x)
  | _, _, .nil => .nil
  | _, _, .cons (a := x) (b := y) h t => by
    rw [List.map_cons, List.map_cons]
    refine .cons ?_ (repN_map hk rv t)
    rw [nk_eq h.1 hk]
    by_cases q : y.1 = j
    · rw [decide_eq_true q, if_pos rfl, if_pos q]; exact ⟨h.1, h.2.1, rv⟩
    · rw [decide_eq_false q, if_neg Bool.false_ne_true, if_neg q]; exact h
theorem repN_snoc {k : PV} {j : NestedKey} {b : Addr} {p : PV} {v : V} (hk : nkOf k = some j) (rk : Rep K mg Fz ρ k (.ref b)) (rv : Rep K mg Fz ρ p v) : ∀ {kvs : List (PV × PV)} {xs : List (NestedKey × Addr × V)}, RepN' K mg Fz ρ kvs xs →
    RepN' K mg Fz ρ (kvs ++ [(k, p)]) (xs ++ [(j, b, v)])
  | _, _, .nil => .cons ⟨hk, rk, rv⟩ .nil
  | _, _, .cons h t => .cons h (repN_snoc hk rk rv t)
theorem repN_put {k : PV} {j : NestedKey} {b : Addr} {p : PV} {v : V} (hk : nkOf k = some j) (rk : Rep K mg Fz ρ k (.ref b)) (rv : Rep K mg Fz ρ p v) {kvs : List (PV × PV)} {xs : List (NestedKey × Addr × V)} (h : RepN' K mg Fz ρ kvs xs) :
    RepN' K mg Fz ρ (dPut kvs k p) (putN xs j b v) := by
  unfold dPut putN
  rw [repN_any hk h]
  split
  · exact repN_map hk rv h
  · exact repN_snoc hk rk rv h
theorem putN_nodup {xs : List (NestedKey × Addr × V)} {k : NestedKey} {b : Addr} {v : V} (h : (xs.map (·.1)).Nodup) : ((putN xs k b v).map (·.1)).Nodup := by
  unfold putN
  split
  · rw [List.map_map]
    have : (xs.map ((fun x => x.1) ∘ fun x => if x.1 = k then (x.1, x.2.1, v) else x)) = xs.map (·.1) := List.map_congr_left fun x _ => by
      simp only [Function.comp]
      split <;> rfl
    rw [this]; exact h
  · rename_i hn
    rw [List.map_append, List.nodup_append]
    refine ⟨h, by simp, fun a ha c hc => ?_⟩
    simp at hc
    subst hc
    intro e
    subst e
    apply hn
    rw [List.any_eq_true]
    obtain ⟨x, hx, rfl⟩ := List.mem_map.mp ha
    exact ⟨x, hx, by simp⟩
theorem repN_keys : ∀ {kvs : List (PV × PV)} {xs : List (NestedKey × Addr × V)}, RepN' K mg Fz ρ kvs xs → RepL K mg Fz ρ (kvs.map (·.1)) (xs.map fun z => .ref z.2.1)
  | _, _, .nil => RepL.nil
  | _, _, .cons h t => RepL.cons h.2.1 (repN_keys t)
theorem repN_vals : ∀ {kvs : List (PV × PV)} {xs : List (NestedKey × Addr × V)}, RepN' K mg Fz ρ kvs xs → RepL K mg Fz ρ (kvs.map (·.2)) (xs.map fun z => z.2.2)
  | _, _, .nil => RepL.nil
  | _, _, .cons h t => RepL.cons h.2.2 (repN_vals t)
def dcnOf (st : Store) : PV → Option (List (PV × PV))
  | .own k => (match st[k]? with
    | some (.dcn kvs) => some kvs
    | some (.dnf kvs) => some kvs
    | _ => none)
  | _ => none
theorem repN_ky {kvs : List (PV × PV)} {xs : List (NestedKey × Addr × V)} (hf : ∀ a o, Fz a = some o → H a = some o) (hd : ∀ x ∈ xs, x.1.depth ≤ 8) (h : RepN' K mg Fz ρ kvs xs) : ∀ x ∈ xs, KyV K H x.1 (.ref x.2.1) ∧ x.1.depth ≤ 8 := by
  intro x hx
  refine ⟨?_, hd x hx⟩
  clear hd
  induction h with
  | nil => exact nomatch hx
  | @cons p y ps ys h t ih =>
    rcases List.mem_cons.mp hx with e | hx
    · subst e; exact kyv_of hf _ _ _ h.1 h.2.1
    · exact ih hx
theorem dcnOf_ok {p : PV} {v : V} {kvs : List (PV × PV)} (r : Rel K mg Z Fz ρ st H) (h : Rep K mg Fz ρ p v) (e : dcnOf st p = some kvs) : ∃ a xs, v = .ref a ∧ NdR K H a xs ∧ kvs.length ≤ sizeLine ∧ RepN' K mg Fz ρ kvs xs := by
  cases p with
  | own k =>
    rw [Rep] at h
    obtain ⟨a, h1, h2⟩ := h
    unfold dcnOf at e
    simp only at e
    split at e
    · rename_i ys ek
      cases e
      obtain ⟨xs, q1, q2, q3, q4, q5⟩ := r.cell k a _ h1 ek
      exact ⟨a, xs, h2, ⟨.inl q1, q5, q4, repN_ky r.fz q3.1 q3.2⟩, q2, q3.2⟩
    · rename_i ys ek
      cases e
      obtain ⟨od, xs, q1, q2, q3, q4, q5⟩ := r.cell k a _ h1 ek
      exact ⟨a, xs, h2, ⟨.inr ⟨od, r.fz _ _ q1⟩, q5, q4, repN_ky r.fz q3.1 q3.2⟩, q2, q3.2⟩
    · cases e
  | _ => cases e
end
def nkD (p : PV) : Option NestedKey := match p with
  | .tup _ => (match nkOf p with
    | some k => if k.depth ≤ 8 then some k else none
    | none => none)
  | _ => none
theorem nkD_of {p : PV} {k : NestedKey} (h : nkD p = some k) : nkOf p = some k ∧ k.depth ≤ 8 ∧ ∃ xs, p = .tup xs := by
  unfold nkD at h
  split at h
  · rename_i xs
    split at h
    · rename_i j e
      split at h
      · rename_i hd
        cases h
        exact ⟨e, hd, xs, rfl⟩
      · cases h
    · cases h
  · cases h
section
variable {K : PySem.W.Frag} {mg : Str → Option Value} {Z Fz : Hp} {ρ : List Addr} {st : Store} {H : Hp}
theorem nkD_ok {p : PV} {k : NestedKey} {v : V} (hf : ∀ a o, Fz a = some o → H a = some o) (h : nkD p = some k) (r : Rep K mg Fz ρ p v) : ∃ b, v = .ref b ∧ KyV K H k (.ref b) ∧ k.depth ≤ 8 ∧ nkOf p = some k := by
  obtain ⟨h1, h2, xs, rfl⟩ := nkD_of h
  have r' := r
  rw [Rep] at r'
  obtain ⟨b, vs, rfl, _⟩ := r'
  exact ⟨b, rfl, kyv_of hf _ _ _ h1 r, h2, h1⟩
end
section
variable {X : Cx} {E : XK} {o i e f value : Expr} {fd fk fx fv fa : XE} {pos pos' apos cpos p : Pos} {tg : Expr}
def oNinN : PV → PV → Store → Option PV := fun x y st => match dcnOf st y, nkD x with
  | some kvs, some _ => some (.bl (!(dLook kvs x).isSome))
  | _, _ => none
theorem look_some {K : PySem.W.Frag} {mg : Str → Option Value} {Fz : Hp} {ρ : List Addr} {k : PV} {j : NestedKey} {kvs : List (PV × PV)} {xs : List (NestedKey × Addr × V)} (hk : nkOf k = some j) (h : RepN' K mg Fz ρ kvs xs) : (dLook kvs k).isSome = (atN xs j).isSome := by
  obtain ⟨h1, h2⟩ := repN_look hk h
  cases q : dLook kvs k with
  | none => rw [h2 q]; rfl
  | some v => obtain ⟨w, ew, _⟩ := h1 v q; rw [ew]; rfl
theorem jo_ninN (hu : X.A.units + 64 < cLine) : JOp X (compareOp .NotIn) oNinN := by
  refine ⟨_, op_ninN hu, fun Z Fz ρ st H x y px py pz Q rl rx ry e q => ?_⟩
  unfold oNinN at e
  split at e
  · rename_i kvs j e1 e2
    cases e
    obtain ⟨a, xs, rfl, nd, _, rn⟩ := dcnOf_ok rl ry e1
    obtain ⟨b, rfl, ky, hd, nk⟩ := nkD_ok rl.fz e2 rx
    refine ⟨a, b, xs, j, rfl, rfl, nd, ky, hd, ?_⟩
    rw [if_pos rfl, ← look_some nk rn]
    exact q Fz ρ H _ Ext.refl rl (by rw [Rep])
  · cases e
def eNget (fd fk : XE) : XE := fun env st => (fd env st).bind fun d s1 => (fk env s1).bind fun k s2 => match dcnOf s2 d, nkD k with
  | some kvs, some _ => (match dLook kvs k with
    | some v => .ok v s2
    | none => .no)
  | _, _ => .no
theorem je_nget (hu : X.A.units + 64 < cLine) (ho : JE X E o fd) (hi : JE X E i fk) (hs : NoSl i := by exact fun _ _ => rfl) : JE X E (.Subscript o i pos) (eNget fd fk) := by
  obtain ⟨ta, pa, sa⟩ := ho
  obtain ⟨tb, pb, sb⟩ := hi
  refine ⟨_, pe_nget hu pa pb hs, fun Z Fz ρ env st σ H Q rl h o => ?_⟩
  refine sa Z Fz ρ env st σ H _ rl h (o.seq.mono fun x s1 F1 r1 H1 _ ex1 rl1 o1 x' rx => ?_)
  refine sb Z F1 r1 env s1 σ H1 _ rl1 (h.mono ex1) (o1.seq.mono fun y s2 F2 r2 H2 _ ex2 rl2 o2 y' ry => ?_)
  split at o2
  · rename_i kvs j e1 e2
    split at o2
    · rename_i v ev
      obtain ⟨a, xs, rfl, nd, _, rn⟩ := dcnOf_ok rl2 (rx.mono ex2) e1
      obtain ⟨b, rfl, ky, hd, nk⟩ := nkD_ok rl2.fz e2 ry
      obtain ⟨w, ew, rw'⟩ := (repN_look nk rn).1 v ev
      exact ⟨a, b, xs, j, w, rfl, rfl, nd, ky, hd, ew, o2.here rl2 _ rw'⟩
    · exact o2.elim
  · exact o2.elim
def gSubN (fo fi : XE) : PV → Ev → Store → R Ev := fun p env st => (fo env st).bind fun o s1 => (fi env s1).bind fun i s2 => match o, nkD i with
  | .own k, some _ => (match s2[k]? with
    | some (.dcn kvs) => if kvs.length < sizeLine then .ok env (s2.set k (.dcn (dPut kvs i p))) else .no
    | _ => .no)
  | _, _ => .no
theorem putN_dep {xs : List (NestedKey × Addr × V)} {k : NestedKey} {b : Addr} {v : V} (h : ∀ x ∈ xs, x.1.depth ≤ 8) (hk : k.depth ≤ 8) : ∀ x ∈ putN xs k b v, x.1.depth ≤ 8 := fun x hx => by
  rcases putN_mem hx with ⟨y, hy, z1, _⟩ | ⟨z1, _⟩
  · rw [z1]; exact h y hy
  · rw [z1]; exact hk
theorem jg_subN {vs : List Nat} (hu : X.A.units + 64 < cLine) (ho : JE X E o fd) (hi : JE X E i fk) (ha : ∀ v, assign (.Subscript o i pos) X.env v = (do
      let ov ← holding [v] (eval o X.env)
      let iv ← holding [v, ov] (eval i X.env)
      standAt pos
      holding [v, ov, iv] (setItem ov iv v)
      release [v, ov, iv] []) := by intro _; rfl) : JGv X E vs (.Subscript o i pos) (gSubN fd fk) := by
  obtain ⟨t, p, s⟩ := ho
  obtain ⟨t', p', s'⟩ := hi
  refine ⟨_, pg_sub p p' (set_nd hu) ha, fun Z Fz ρ env st σ H q v Q rl re rv o => ?_⟩
  refine s Z Fz ρ env st σ H _ rl re (o.seq.mono fun x s1 F1 r1 H1 hq1 ex1 rl1 o1 x' rx => ?_)
  refine s' Z F1 r1 env s1 σ H1 _ rl1 (re.mono ex1) (o1.seq.mono fun y s2 F2 r2 H2 hq2 ex2 rl2 o2 y' ry => ?_)
  clear hq1 hq2
  split at o2
  · rename_i k j ej
    split at o2
    · rename_i kvs ek
      split at o2
      · rename_i hl
        replace rx := rx.mono ex2
        have rx' := rx
        rw [Rep] at rx
        obtain ⟨a, ea, rfl⟩ := rx
        obtain ⟨xs, h1, h2, h3, h4, h5⟩ := rl2.cell k a _ ea ek
        obtain ⟨b, rfl, ky, hd, nk⟩ := nkD_ok rl2.fz ej ry
        have ln : xs.length = kvs.length := (PySem.Paired.length h3.2).symm
        refine ⟨a, b, xs, j, rfl, rfl, h1, ⟨.inl h1, h5, h4, repN_ky rl2.fz h3.1 h3.2⟩, ky, hd, by omega, ?_⟩
        have hc : CellOk X.K X.mg F2 r2 (upd H2 a (NdO a (putN xs j b v))) a (.dcn (dPut kvs y q)) :=
          ⟨_, upd_same, by have := dPut_len kvs y q; omega, ⟨putN_dep h3.1 hd, repN_put nk ry (rv.mono (ex1.trans ex2)) h3.2⟩, putN_nodup h4, h5⟩
        exact o2 F2 r2 _ Ext.refl (rl2.write ea ek rfl rfl hc) σ ((re.mono ex1).mono ex2) ⟨rfl, fun _ _ => rfl⟩
      · exact o2.elim
    · exact o2.elim
  · exact o2.elim
def eDcn : XE := fun _ st => .ok (.own st.length) (st ++ [.dcn []])
theorem je_dcn : JE X E (.Dict [] [] pos) eDcn := by
  refine ⟨_, pe_dnewN, fun Z Fz ρ env st σ H Q rl hh o p hp hs => ?_⟩
  obtain ⟨rl2, ex2⟩ := rl.owned hp (o := NdO p []) (c := .dcn []) rfl ⟨[], upd_same, Nat.zero_le _, ⟨(fun x hx => nomatch hx), .nil⟩, List.nodup_nil, hs⟩
  exact o _ _ _ ex2 rl2 _ (by rw [Rep]; exact ⟨p, by rw [← rl.len]; simp, rfl⟩)
end
def ItnI (d : Addr) (o : Obj) (xs : List (NestedKey × Addr × V)) : It :=
  ⟨fun i H => H d = some (.frz o (NdO d xs)) ∧ i < xs.length, fun i H x H' => ∃ T k b v, xs[i]? = some (k, b, v) ∧ x = .ref T ∧ H T = none ∧ H' = upd H T (.tup [.ref b, v]), fun i H => H d = some (.frz o (NdO d xs)) ∧ xs.length ≤ i⟩
section
variable {X : Cx} {pins : List (Addr × Obj)} {σ : L2.St} {H : Hp} {s : Shared} {d : Addr} {o : Obj} {xs : List (NestedKey × Addr × V)}
theorem frzN (I : Inv X pins σ H s) (h : H d = some (.frz o (NdO d xs))) : ∃ es ep, s.heap.DictRaw d es ep ∧ o.data = .dict es ep ∧ es.size = xs.length ∧
    ∀ (i : Nat) (hi : i < es.size) k b v, xs[i]? = some (k, b, v) → es[i].key = .ref b ∧ RelV v es[i].val := by
  obtain ⟨h1, ⟨o', es, ep, e1, e2, e3, e4⟩, _⟩ := I.hok d _ h
  rw [h1] at e1
  cases e1
  have ln : es.size = xs.length := by rw [← Array.length_toList]; exact PySem.Paired.length e4
  refine ⟨es, ep, ⟨o, h1, e2, e3⟩, e3, ln, fun i hi k b v ex => ?_⟩
  have e4' := e4
  have : ∀ {l : List DictEntry} {m : List (NestedKey × Addr × V)}, PySem.Paired (fun (e : DictEntry) (x : NestedKey × Addr × V) => (∀ w : World, e.hash = x.1.hash w) ∧ e.key = .ref x.2.1 ∧ RelV x.2.2 e.val) l m →
      ∀ (i : Nat) (en : DictEntry) (x : NestedKey × Addr × V), l[i]? = some en → m[i]? = some x → en.key = .ref x.2.1 ∧ RelV x.2.2 en.val := by
    intro l m q
    induction q with
    | nil => intro i en x z; simp at z
    | @cons a b l m hq t ih =>
      intro i en x z z'
      cases i with
      | zero => simp at z z'; subst z; subst z'; exact hq.2
      | succ j => exact ih j en x (by simpa using z) (by simpa using z')
  exact this e4 i es[i] (k, b, v) (by rw [Array.getElem?_toList]; exact Array.getElem?_eq_getElem hi) ex
end
section
variable {P : Program} {w : World} {K : PySem.W.Frag} {tg : Expr} {d : Addr} {o : Obj} {es : Array DictEntry} {ep : Nat} {xs : List (NestedKey × Addr × V)}
theorem turn_itemsN {elts : List Expr} {kk : Nat} {tpos : Pos} (it : Addr) (hod : o.data = .dict es ep) (hsz : es.size = xs.length) :
    Turn P w K (.Tuple elts kk tpos) (ItnI d o xs) [it] it (fun i h => ∃ ok ov, IsItemIter h it d i es.size ep ok ov) where
  mem := by simp
  obj := fun i h st b hb => by
    have e : b = it := by simpa using hb
    subst e
    obtain ⟨ok, ov, e⟩ := st
    exact ⟨_, e, fun v z => nomatch z⟩
  keep := fun i h h' st k => let ⟨ok, ov, e⟩ := st; ⟨ok, ov, k it (by simp) _ e⟩
  item := by
    intro X hP hw hK hc i pins s σ H E I hf st hg
    subst hP hw hK
    obtain ⟨hd, hi⟩ := hg
    obtain ⟨es', ep', hm, hdt, hsz', ent⟩ := frzN I hd
    obtain ⟨rfl, rfl⟩ := dict_ep hod hdt
    have hi' : i < es'.size := by omega
    obtain ⟨⟨k, b, v⟩, hkv⟩ : ∃ p, xs[i]? = some p := ⟨xs[i], List.getElem?_eq_getElem hi⟩
    obtain ⟨hkey, hval⟩ := ent i hi' k b v hkv
    obtain ⟨ok, ov, he⟩ := st
    have hlt : it < s.heap.objs.size := Heap.lt_size he
    refine wpAny_pyNext_items_item_raw he hm hi' fun h' ho hT hz hk => ?_
    refine ⟨_, rfl, wpAny_letOwnedTupleGo_items (s := { s with heap := h' }) ho fun h'' he' sb => ?_⟩
    have hT2 : h''.get? s.heap.objs.size = some { cls := .type "tuple", data := .seq #[es'[i].key, es'[i].val] } := (sb.2 _ (Nat.ne_of_gt hlt)).trans hT
    have new : ObjOk X.prog X.w (upd H s.heap.objs.size (.tup [.ref b, v])) h'' s.heap.objs.size (.tup [.ref b, v]) :=
      ⟨by show 2 ≤ sizeLine; decide, [es'[i].key, es'[i].val], .cons hkey (.cons hval .nil), ⟨_, hT2, rfl, _, rfl⟩⟩
    have I1 : Inv X pins σ (upd H s.heap.objs.size (.tup [.ref b, v])) { s with heap := h'' } :=
      I.turnedNew (t' := s.toks) (ch := [it]) (fun b ob hb e => (sb.2 b (by simpa using hb)).trans (hk b ob (by simpa using hb) e)) hf (Nat.le_refl _) new
    refine ⟨.ref s.heap.objs.size, _, I1, rfl, ⟨_, k, b, v, hkv, rfl, I.hok.fresh (Nat.le_refl _), rfl⟩, ⟨_, _, he'⟩, fun b hb => ?_⟩
    have e : b = it := by simpa using hb
    rw [e, upd_ne (Nat.ne_of_lt hlt)]
    exact (hf it (by simp)).1
  done := by
    intro X hP hw hK hc i pins s σ H E I hf st hg
    subst hP hw hK
    obtain ⟨hd, hi⟩ := hg
    obtain ⟨f0, f1, f2, f3, f4, f5⟩ := hf it (by simp)
    obtain ⟨es', ep', hm, hdt, hsz', ent⟩ := frzN I hd
    obtain ⟨rfl, rfl⟩ := dict_ep hod hdt
    obtain ⟨ok, ov, he⟩ := st
    exact wpAny_pyNext_items_end_raw (I.ok.hd hc) he hm (by omega) fun h' eb => ⟨rfl, I.turned (t' := s.toks) (fun b ob hb e => eb b ob hb e) f0 f1 f3 f4 f5⟩
  self := fun A i s Q E st h => let ⟨_, _, e⟩ := st; PySem.W.kcp_self e h
end
section
variable {X : Cx} {E : XK} {e o tg : Expr} {td : TE} {apos cpos : Pos} {fa : XE}
def iItemsN (td : TE) : TI := fun σ H R => td σ H fun x H1 => ∃ d o xs, x = .ref d ∧ (d == sysModules) = false ∧ H1 d = some (.frz o (NdO d xs)) ∧ R (ItnI d o xs) H1
theorem pi_itemsN {elts : List Expr} {kk : Nat} {tpos : Pos} (he : PE X e td) (hbase : attributeBase e "items" X.env (eval e X.env) = eval e X.env := by rfl) (hline : (apos.endLine == cpos.line) = true := by rfl) :
    PI X (.Tuple elts kk tpos) (.Call (.Attribute e "items" apos) [] [] cpos) (iItemsN td) := by
  refine ⟨fun pins s σ H R I h => ?_⟩
  refine wpAny_Call_method (T := "dict") (id := "dict.items") hbase rfl hline F.plainAttrs_dict F.slot_dict_items F.type_dict_items (thn (he.run pins s σ H _ I h) fun u s1 ⟨x, H1, I1, rx, d, o, xs, ex, hs, hd, q⟩ => ?_)
  subst ex
  obtain rfl : u = Value.ref d := rx
  obtain ⟨es, ep, hm, hdt, hsz, ent⟩ := frzN I1 hd
  have hm' := hm
  obtain ⟨o', g1, g2, g3⟩ := hm'
  refine ⟨hm.typeIs, fun b q => by cases q; exact ⟨o', g1, g2.2.1⟩, ?_⟩
  have I2 : Inv X pins σ H1 { s1 with heap := s1.heap.push { cls := .type "dict_items", data := .fields #[.ref d] } } := I1.kept (t' := s1.toks) fun b ob q => Heap.get?_push_of_some _ q
  have fin : wpAny (model X.prog X.w) X.A (pyIter (.ref s1.heap.objs.size)) (PIE X pins σ (.Tuple elts kk tpos) R) X.xe { s1 with heap := s1.heap.push { cls := .type "dict_items", data := .fields #[.ref d] } } := by
    refine wpAny_pyIter_items_raw (d := d) ⟨_, Heap.get?_push_size _ rfl, rfl, rfl⟩ (hm.at fun o e => Heap.get?_push_of_some _ e) (pi_one (tk := s1.toks) I2 _ (turn_itemsN _ hdt hsz) ⟨.none, .none, ?_⟩ q)
    exact Heap.get?_push_size _ rfl
  show wpAny _ _ (callWith cpos (.builtin "dict.items") [.ref d] [] []) _ X.xe s1
  exact method_meetsIn F.slot_dict_items F.entry_dict_items rfl (PySem.evalArgs_none ⟨rfl, hm.typeIs, F.args_dict_items_1 _, _, meets_dict_items_raw d hs, ⟨es, ep, hm⟩, fin⟩)
def dnfOf (st : Store) : PV → Option (List (PV × PV))
  | .own k => (match st[k]? with
    | some (.dnf kvs) => some kvs
    | _ => none)
  | _ => none
theorem dnfOf_ok {K : PySem.W.Frag} {mg : Str → Option Value} {Z Fz : Hp} {ρ : List Addr} {st : Store} {H : Hp} {p : PV} {v : V} {kvs : List (PV × PV)} (r : Rel K mg Z Fz ρ st H) (h : Rep K mg Fz ρ p v) (e : dnfOf st p = some kvs) :
    ∃ a od xs, v = .ref a ∧ (a == sysModules) = false ∧ Fz a = some (.frz od (NdO a xs)) ∧ kvs.length ≤ sizeLine ∧ RepN' K mg Fz ρ kvs xs := by
  cases p with
  | own k =>
    rw [Rep] at h
    obtain ⟨a, h1, h2⟩ := h
    unfold dnfOf at e
    simp only at e
    split at e
    · rename_i ys ek
      cases e
      obtain ⟨od, xs, q1, q2, q3, q4, q5⟩ := r.cell k a _ h1 ek
      exact ⟨a, od, xs, h2, q5, q1, q2, q3.2⟩
    · cases e
  | _ => cases e
def iItemsF (f : XE) : XL := fun env st => (f env st).bind fun d s => match dnfOf s d with
  | some kvs => .ok (kvs.map fun z => .tup [z.1, z.2]) s
  | none => .no
theorem ji_itemsN {elts : List Expr} {kk : Nat} {tpos : Pos} (h : JE X E e fa) (hbase : attributeBase e "items" X.env (eval e X.env) = eval e X.env := by rfl) (hline : (apos.endLine == cpos.line) = true := by rfl) :
    JI X E (.Tuple elts kk tpos) (.Call (.Attribute e "items" apos) [] [] cpos) (iItemsF fa) := by
  obtain ⟨t, pt, s⟩ := h
  refine ⟨_, pi_itemsN pt hbase hline, fun Z Fz ρ env st σ H R rl re o => ?_⟩
  refine s Z Fz ρ env st σ H _ rl re (o.seq.mono fun x s1 F1 r1 H1 hq ex1 rl1 o1 x' rx => ?_)
  clear hq
  split at o1
  · rename_i kvs ek
    obtain ⟨a, od, xs, rfl, hs, hF, hz, rn⟩ := dnfOf_ok rl1 rx ek
    have ln : kvs.length = xs.length := PySem.Paired.length rn
    refine ⟨a, od, xs, rfl, hs, rl1.fz _ _ hF, o1.here rl1 _ (by rw [List.length_map]; exact hz) fun Z' F2 r2 st2 H2 ex rl2 => ?_⟩
    have hd : H2 a = some (.frz od (NdO a xs)) := rl2.fz _ _ (ex.fz _ _ hF)
    refine ⟨fun i x e => ?_, ⟨hd, by rw [List.length_map]; omega⟩⟩
    rw [List.getElem?_map] at e
    cases ekv : kvs[i]? with
    | none => rw [ekv] at e; cases e
    | some kv =>
      rw [ekv] at e
      cases e
      obtain ⟨v1, ev1, rv1⟩ := (repN_keys rn).get (i := i) (p := kv.1) (by rw [List.getElem?_map, ekv]; rfl)
      obtain ⟨v2, ev2, rv2⟩ := (repN_vals rn).get (i := i) (p := kv.2) (by rw [List.getElem?_map, ekv]; rfl)
      rw [List.getElem?_map] at ev1 ev2
      cases eq : xs[i]? with
      | none => rw [eq] at ev1; cases ev1
      | some z =>
        rw [eq] at ev1 ev2
        cases ev1
        cases ev2
        refine ⟨⟨hd, (List.getElem?_eq_some_iff.mp eq).1⟩, fun v' H' y => ?_⟩
        obtain ⟨T, k, b, v3, e3, rfl, hT, rfl⟩ := y
        rw [eq] at e3
        cases e3
        exact rep_pair rl2 hT (rv1.mono ex) (rv2.mono ex)
  · exact o1.elim
end
end Lq
end
section
set_option Elab.async false
set_option linter.all false
set_option maxRecDepth 100000
namespace Lq
open PySem PySem.Spec PyProof.Rows L2
section
variable {X : Cx} {E : XK} {a b e o i fe : Expr} {es : List Expr} {p pos apos cpos : Pos} {fa fb fo ff fk : XE} {fl : XL} {x : Str}
theorem je_glo {g : Addr} (hm : X.mg x = some (.ref g)) (hg : Gl X x := by rfl) (hdb : (x == ("__debug__" : Str)) = false := by decide) : JE X E (.Name x pos) (eC (.glo x)) :=
  je_const (pe_glob hg hm (v := .ref g) rfl hdb) fun Fz ρ => by rw [Rep]; exact ⟨g, hm, rfl⟩
theorem Cl.mgE {P : Program} {w : World} {K : PySem.W.Frag} {mg : Str → Option Value} {base : Heap} {k n : Nat} {f : Fn} (c : Cl P w K mg base k x n f) : ∃ g, mg x = some (.ref g) := let ⟨a, _, _, h, _⟩ := c.ex; ⟨a, h⟩
theorem je_gloC {k n : Nat} {f : Fn} (c : Cl X.prog X.w X.K X.mg X.base k x n f) (hg : Gl X x := by rfl) (hdb : (x == ("__debug__" : Str)) = false := by decide) : JE X E (.Name x pos) (eC (.glo x)) :=
  let ⟨_, h⟩ := c.mgE; je_glo h hg hdb
def eCallV (tab : List (Str × Fn)) (n : Nat) (ff : XE) (fl : XL) : XE := fun env st => (ff env st).bind fun g s1 => match g with
  | .glo x => (match tab.lookup x with
    | some f => (fl env s1).bind fun xs s2 => if xs.length = n then f xs s2 else .no
    | none => .no)
  | _ => .no
def ClT (X : Cx) (j n : Nat) (tab : List (Str × Fn)) : Prop := ∀ x f, tab.lookup x = some f → ∃ k, k ≤ j ∧ Cl X.prog X.w X.K X.mg X.base k x n f
theorem clt_nil {j n : Nat} : ClT X j n [] := fun x f e => by cases e
theorem clt_cons {j n k : Nat} {f : Fn} {tab : List (Str × Fn)} (c : Cl X.prog X.w X.K X.mg X.base k x n f) (r : ClT X j n tab) (hk : k ≤ j := by decide) : ClT X j n ((x, f) :: tab) := fun y g e => by
  rw [List.lookup_cons] at e
  split at e
  · rename_i h
    have : y = x := by simpa using h
    cases e
    subst this
    exact ⟨k, hk, c⟩
  · exact r y g e
def tCallV (X : Cx) (tab : List (Str × Fn)) (n : Nat) (E : XK) (tf : TE) (t : TA) : TE := fun σ H Q => tf σ H fun y H1 => ∃ a x f, y = .ref a ∧ X.mg x = some (.ref a) ∧ tab.lookup x = some f ∧ t σ H1 fun vs H2 => spF X.K X.mg n f vs H2 Q E
theorem pe_callV {j n : Nat} {tab : List (Str × Fn)} {tf : TE} {t : TA} (hf : PE X fe tf) (hT : ClT X j n tab) (hr : Room j X.A) (hx : Passes (L2.CX X.prog X.w) X E) (ha : PA X (e :: es) t)
    (ht : eval (.Call fe (e :: es) [] pos) X.env = (do callWith pos (← eval fe X.env) [] (backTo pos (starEach (e :: es) X.env)) (backToKw pos (keywordEach [] X.env))) := by rfl)
    (he : starEach (e :: es) X.env = (false, eval e X.env) :: starEach es X.env := by rfl) (hpl : (backTo pos (starEach es X.env)).any (·.1) = false := by rfl) : PE X (.Call fe (e :: es) [] pos) (tCallV X tab n E tf t) := by
  refine ⟨fun pins s σ H Q I h => ?_⟩
  refine Call_ (thn (hf.run pins s σ H _ I h) fun u s1 ⟨y, H1, I1, ry, a, x, f, ey, hm, hl, q⟩ => ?_) ht
  subst ey
  obtain rfl : u = Value.ref a := ry
  obtain ⟨k, hk, c⟩ := hT x f hl
  obtain ⟨a', fd, ps, hm', hkp, hb, F⟩ := c.ex
  rw [hm] at hm'
  cases hm'
  refine PySem.W.callWith_K (h₀ := X.base) I1.ok.mod.kin hkp (thn (ha.run pos pins s1 σ H1 _ I1 q) fun us s2 ⟨vs, H2, I2, r, q2⟩ => ⟨I2.kIn, ?_⟩) he hpl
  exact run_fn (dvs := []) F (hr.mono hk) hb .nil hx I2 r (by rw [List.append_nil]; exact q2)
theorem je_callV {j n : Nat} (tab : List (Str × Fn)) (hf : JE X E fe ff) (hT : ClT X j n tab) (hr : Room j X.A) (hx : Passes (L2.CX X.prog X.w) X E) (ha : JA X E (e :: es) fl)
    (ht : eval (.Call fe (e :: es) [] pos) X.env = (do callWith pos (← eval fe X.env) [] (backTo pos (starEach (e :: es) X.env)) (backToKw pos (keywordEach [] X.env))) := by rfl)
    (he : starEach (e :: es) X.env = (false, eval e X.env) :: starEach es X.env := by rfl) (hpl : (backTo pos (starEach es X.env)).any (·.1) = false := by rfl) : JE X E (.Call fe (e :: es) [] pos) (eCallV tab n ff fl) := by
  obtain ⟨tf, pf, sf⟩ := hf
  obtain ⟨t, pt, s⟩ := ha
  refine ⟨_, pe_callV pf hT hr hx pt ht he hpl, fun Z Fz ρ env st σ H Q rl hh o => ?_⟩
  refine sf Z Fz ρ env st σ H _ rl hh (o.seq.mono fun g s1 F1 r1 H1 hq ex1 rl1 o1 g' rg => ?_)
  clear hq
  split at o1
  · rename_i y
    rw [Rep] at rg
    obtain ⟨ad, h1, rfl⟩ := rg
    split at o1
    · rename_i f hl
      refine ⟨ad, y, f, rfl, h1, hl, ?_⟩
      refine s Z F1 r1 env s1 σ H1 _ rl1 (hh.mono ex1) (o1.seq.mono fun xs s2 F2 r2 H2 hq2 ex2 rl2 o2 xs' rx => ?_)
      clear hq2
      split at o2
      · rename_i hn
        exact ⟨by rw [← rx.len]; exact hn, Z, F2, r2, s2, xs, rl2, rx, o2⟩
      · exact o2.elim
    · exact o1.elim
  · exact o1.elim
end
end Lq
namespace Lq
open PySem PySem.Spec PyProof.Rows L2
theorem u1 {k : Nat} {A : Around} (hr : Room k A) : A.units + 1 < cLine := by have := hr.un; omega
section
variable {X : Cx} {E : XK} {a : Expr} {fa : XE}
end
end Lq
end
section
set_option Elab.async false
set_option linter.all false
set_option maxRecDepth 100000
namespace Lq
open PySem PySem.Spec PyProof.Rows L2
section
variable {prog : Program} {w : World} {A : Around} {E : Value → Shared → Prop} {s : Shared}
end
section
variable {X : Cx} {E : XK} {o : Expr} {fa : XE} {p pos : Pos}
end
end Lq
end
section
set_option Elab.async false
set_option linter.all false
set_option maxRecDepth 100000
namespace Lq
open PySem PySem.Spec PyProof.Rows L2
section
variable {P : Program} {w : World} {A : Around} {E : Value → Shared → Prop} {s : Shared}
abbrev Wd (P : Program) (w : World) (h : Heap) (k : List Str) (b : Addr) : Prop := IsTupleKey (PySem.strKind P w) h k b
abbrev hW (P : Program) (w : World) (k : List Str) : Int := tupleKeyHash (PySem.strKind P w) k
theorem words_of {k : List Str} {us : List Value} (z : ItemsAre (PySem.strKind P w) k us) (u : Value) : u ∈ us → ∃ x c, u = Value.str x c := by
  induction z with
  | nil => intro m; exact nomatch m
  | cons one _ more =>
    intro m
    rcases List.mem_cons.mp m with rfl | m
    · exact ⟨_, Value.isStrOf_shape one⟩
    · exact more m
theorem cls_word (n : Nat) (x : Str) (c : Tok) : ofAClassStatement n (.str x c) = pure false := by cases n <;> rfl
theorem val_word (n : Nat) (x : Str) (c : Tok) : hashByValue n (.str x c) = pure false := by cases n <;> rfl
theorem cls_row {k : List Str} {b : Addr} {Q : Bool → Shared → Prop} (z : Wd P w s.heap k b) (q : Q false s) : wpAny (model P w) A (ofAClassStatement 8 (.ref b)) Q E s := by
  have ty := z.typeIs
  obtain ⟨ob, us, m, g1, _, g2, g3⟩ := z
  have yes : (("tuple" : String) == "tuple") = true := rfl
  unfold ofAClassStatement
  refine wpAny_bind (wpAny_typeOf ty ?_)
  dsimp only
  simp only [yes, Bool.not_true, Bool.false_eq_true, if_false, if_true]
  refine wpAny_bind (wpAny_pure ?_)
  simp only [Bool.not_true, Bool.false_eq_true, if_false]
  refine wpAny_bind (wpAny_seqItems g1 g2 ?_)
  dsimp only
  refine wpAny_bind ?_
  show wpAny _ _ (forIn us _ _) _ _ s
  rw [← Array.forIn_toList]
  refine wpAny_forIn_list _ (fun left r v => v = s ∧ r.1 = none ∧ ∀ u, u ∈ left → ∃ x c, u = Value.str x c) _ (fun u left r v hI => ?_) (fun r v hI => ?_) _ _ ⟨rfl, rfl, words_of g3⟩
  · obtain ⟨rfl, _, all⟩ := hI
    obtain ⟨x, c, rfl⟩ := all _ (.head _)
    rw [cls_word]
    refine wpAny_bind (wpAny_pure ?_)
    simp only [Bool.false_eq_true, if_false]
    exact wpAny_pure ⟨rfl, rfl, fun y hy => all y (.tail _ hy)⟩
  · obtain ⟨rfl, no, _⟩ := hI
    obtain ⟨r1, r2⟩ := r
    cases no
    exact wpAny_pure q
theorem val_row {k : List Str} {b : Addr} {Q : Bool → Shared → Prop} (z : Wd P w s.heap k b) (q : ∀ y, Q y s) : wpAny (model P w) A (hashByValue 8 (.ref b)) Q E s := by
  have ty := z.typeIs
  obtain ⟨ob, us, m, g1, _, g2, g3⟩ := z
  unfold hashByValue
  refine wpAny_bind (wpAny_specialOf ty F.slot_tuple_hash.lookup ?_)
  show wpAny _ _ (seqItems? (.ref b) >>= _) _ _ _
  refine wpAny_bind (wpAny_seqItems g1 g2 (wpAny_bind ?_))
  show wpAny _ _ (forIn us _ _) _ _ s
  rw [← Array.forIn_toList]
  refine wpAny_forIn_list _ (fun left r v => v = s ∧ ∀ u, u ∈ left → ∃ x c, u = Value.str x c) _ (fun u left r v hI => ?_) (fun r v hI => ?_) _ _ ⟨rfl, words_of g3⟩
  · obtain ⟨rfl, all⟩ := hI
    obtain ⟨x, c, rfl⟩ := all _ (.head _)
    rw [val_word]
    refine wpAny_bind (wpAny_pure ?_)
    simp only [Bool.not_false, if_true]
    exact wpAny_pure (wpAny_pure (q _))
  · obtain ⟨rfl, _⟩ := hI
    obtain ⟨r1, r2⟩ := r
    cases r1 with
    | none => exact wpAny_pure (q _)
    | some y => exact wpAny_pure (q _)
theorem calm_row {k : List Str} {b : Addr} {Q : Bool → Shared → Prop} {ys : List Value} (z : Wd P w s.heap k b) (zs : ∀ y, y ∈ ys → ∃ c l, y = Value.ref c ∧ Wd P w s.heap l c) (q : Q false s) :
    wpAny (model P w) A (searchCouldBeSeen (.ref b) ys) Q E s := by
  unfold searchCouldBeSeen
  refine wpAny_bind (wpAny_forIn_list _ (fun left r v => v = s ∧ r.1 = none ∧ ∀ y, y ∈ left → ∃ c l, y = Value.ref c ∧ Wd P w s.heap l c) _ (fun u left r v hI => ?_) (fun r v hI => ?_) _ _ ⟨rfl, rfl, zs⟩)
  · obtain ⟨rfl, _, all⟩ := hI
    obtain ⟨c, l, rfl, zc⟩ := all _ (.head _)
    have go : ∀ y, y ∈ left → ∃ c l, y = Value.ref c ∧ Wd P w v.heap l c := fun y hy => all y (.tail _ hy)
    dsimp only
    rcases Classical.em ((b == c || (carriedByValue (.ref b) && carriedByValue (.ref c))) = true) with e | e
    · exact wp_if_pos e (wpAny_pure ⟨rfl, rfl, go⟩)
    · refine wp_if_neg e (wpAny_bind (wpAny_eqIsQuiet_tuple z ?_))
      simp only [Bool.not_true, Bool.false_eq_true, if_false]
      refine wpAny_bind (wpAny_eqIsQuiet_tuple zc ?_)
      simp only [Bool.not_true, Bool.false_eq_true, if_false]
      refine wpAny_bind (cls_row z ?_)
      simp only [Bool.false_eq_true, if_false]
      refine wpAny_bind (cls_row zc ?_)
      simp only [Bool.false_eq_true, if_false]
      exact wpAny_pure ⟨rfl, rfl, go⟩
  · obtain ⟨rfl, no, _⟩ := hI
    obtain ⟨r1, r2⟩ := r
    cases no
    exact wpAny_pure q
def ents (P : Program) (w : World) (L : List (Addr × List Str)) : List (Int × Value) := L.map fun r => (hW P w r.2, Value.ref r.1)
structure RSet (P : Program) (w : World) (h : Heap) (a : Addr) (L : List (Addr × List Str)) (es : Array (Int × Value)) (ep : Nat) (t : SetTable) : Prop where
  obj : ∃ o, h.get? a = some o ∧ o.ExactSet ∧ o.data = .set es ep t
  list : es.toList = ents P w L
  tab : TabOk t (L.map fun r => hW P w r.2)
  once : (L.map Prod.snd).Nodup
  words : ∀ r, r ∈ L → Wd P w h r.2 r.1
  room : 5 * L.length < 3 * t.mask
  few : L.length < 64
variable {a : Addr} {L : List (Addr × List Str)} {es : Array (Int × Value)} {ep : Nat} {t : SetTable}
theorem rents_len {es : Array (Int × Value)} (h : es.toList = ents P w L) : es.size = L.length := by
  rw [← Array.length_toList, h, ents, List.length_map]
theorem rents_at {es : Array (Int × Value)} (h : es.toList = ents P w L) {i : Nat} {r : Addr × List Str} (e : L[i]? = some r) : es[i]? = some (hW P w r.2, Value.ref r.1) := by
  rw [← Array.getElem?_toList, h, ents, List.getElem?_map, e]
  rfl
theorem RSet.fits (R : RSet P w s.heap a L es ep t) : t.fits es.size = true := by
  have e1 : t.place.size = es.size := by rw [R.tab.sz, List.length_map, rents_len R.list]
  have e2 := R.room
  have e3 := rents_len R.list
  simp only [SetTable.fits, SetTable.fill, R.tab.dm, e1, beq_self_eq_true, Bool.true_and, decide_eq_true_eq]
  show es.size + 0 ≤ t.mask
  omega
theorem way_free (m : Nat) : ∀ (n : Nat) (p : SetTable.Probe), p.dummy = none → (nth m p n).dummy = none
  | 0, _, h => h
  | n + 1, p, h => way_free m n (adv m p) (by unfold adv; split <;> exact h)
abbrev prb (P : Program) (w : World) (m : Nat) (k : List Str) (c : Nat) : SetTable.Probe := nth m (runAt m (SetTable.bits (hW P w k) % (m + 1)) (SetTable.bits (hW P w k))) c
theorem seek (R : RSet P w s.heap a L es ep t) {x : Addr} {k : List Str} (z : Wd P w s.heap k x) (hu : A.units < cLine) {N : Nat} (hN : N < 10 * SetTable.turns t.mask)
    (fr : way t.mask (hW P w k) N ∉ t.place.toList) (oc : ∀ c, c < N → way t.mask (hW P w k) c ∈ t.place.toList) {Q : SetFound → Shared → Prop}
    (qy : k ∈ L.map Prod.snd → Q (.there none) s) (qn : k ∉ L.map Prod.snd → Q (.free (way t.mask (hW P w k) N) false) s) :
    ∀ (f c : Nat) (from_ : Option SetTable.Probe), from_.getD (t.probeStart (hW P w k)) = prb P w t.mask k c → c ≤ N → N < f + c →
      (∀ (i : Nat) r, L[i]? = some r → r.2 = k → ∃ d, c ≤ d ∧ d < N ∧ t.place.toList[i]? = some (way t.mask (hW P w k) d)) →
      wpAny (model P w) A (setSearchFrom a (.ref x) (hW P w k) true f from_) Q E s := by
  intro f
  induction f with
  | zero => intro c _ _ h1 h2 _; exact absurd h2 (by omega)
  | succ f ih =>
    intro c from_ ef cN _ later
    obtain ⟨ob, g1, gx, g2⟩ := R.obj
    have step : ∀ d, nth t.mask (prb P w t.mask k c) d = prb P w t.mask k (c + d) := fun d => (nth_add t.mask c _ d).symm
    have stepj : ∀ d, (nth t.mask (prb P w t.mask k c) d).j = way t.mask (hW P w k) (c + d) := fun d => congrArg SetTable.Probe.j (step d)
    have hashes : ∀ (i : Nat) r, L[i]? = some r → (es[i]?.map (·.1)).getD 0 = hW P w r.2 := fun i r e => by rw [rents_at R.list e]; rfl
    have gs := go_spec t R.tab.ris R.tab.dm (fun i => (es[i]?.map (·.1)).getD 0) (hW P w k) (10 * SetTable.turns t.mask) (N - c) (prb P w t.mask k c) (way_free _ _ _ rfl) (by omega)
      (fun d hd => by rw [stepj]; exact oc _ (by omega)) (by rw [stepj, Nat.add_sub_cancel' cN]; exact fr)
    rw [setSearchFrom_succ]
    refine wpAny_bind (wpAny_setState_of g1 g2 R.fits ?_)
    dsimp only
    refine wp_if_neg (by rw [SetTable.gaveWay, mask_odd R.tab.mok]; decide) ?_
    try refine wpAny_bind (wpAny_pure ?_)
    rcases gs with ⟨d, i, hd, pi, ph, pno, pr⟩ | ⟨pno, pr⟩
    · have pr2 : t.probe (fun i => (es[i]?.map (·.1)).getD 0) (hW P w k) (from_.getD (t.probeStart (hW P w k))) = some (.candidate (way t.mask (hW P w k) (c + d)) i (prb P w t.mask k (c + (d + 1)))) := by
        rw [ef, ← stepj, ← step]; exact pr
      rw [pr2]
      dsimp only
      rw [stepj] at pi
      have iL : i < L.length := by
        have e1 := (List.getElem?_eq_some_iff.mp pi).1
        rw [Array.length_toList, R.tab.sz, List.length_map] at e1
        exact e1
      obtain ⟨r, er⟩ : ∃ r, L[i]? = some r := ⟨_, List.getElem?_eq_getElem iL⟩
      have rL := List.mem_of_getElem? er
      have main : wpAny (model P w) A (searchRest a (.ref x) (hW P w k) true f es t (way t.mask (hW P w k) (c + d)) i (prb P w t.mask k (c + (d + 1)))) Q E s := by
        unfold searchRest
        rw [rents_at R.list er]
        dsimp only
        refine wpAny_bind (wpAny_holding (wpAny_eqBool_tuple hu (R.words r rL) z ?_))
        refine wpAny_bind (wpAny_setState_of g1 g2 R.fits ?_)
        dsimp only
        rcases Classical.em (r.2 = k) with same | other
        · refine wp_if_pos (by simp [same]) (wpAny_pure (qy ?_))
          exact List.mem_map.mpr ⟨r, rL, same⟩
        · refine wp_if_neg (by simp [other]) ?_
          try refine wpAny_bind (wpAny_pure ?_)
          have live : t.slot (way t.mask (hW P w k) (c + d)) = .live i := slot_live R.tab.ris pi
          rw [show t.sameMemory t.moves t.mask = some true from by simp [SetTable.sameMemory]]
          dsimp only
          simp only [if_true, live, rents_at R.list er]
          refine wpAny_bind (wpAny_isSame_ref_self (wpAny_bind (wpAny_pure ?_)))
          simp only [if_true]
          refine wp_if_neg (by simp [other]) ?_
          refine ih (c + (d + 1)) _ rfl (by omega) (by omega) fun i1 r1 e1 e2 => ?_
          obtain ⟨b, b1, b2, b3⟩ := later i1 r1 e1 e2
          refine ⟨b, ?_, b2, b3⟩
          rcases Nat.lt_trichotomy b (c + d) with l | l | l
          · exact absurd ((hashes i1 r1 e1).trans (by rw [e2])) (pno (b - c) i1 (by omega) (by rw [stepj, Nat.add_sub_cancel' b1]; exact b3))
          · rw [l] at b3
            have l2 := slot_live R.tab.ris b3
            rw [live] at l2
            injection l2 with l2
            rw [← l2, er] at e1
            exact absurd ((congrArg Prod.snd (Option.some.inj e1)).trans e2) other
          · omega
      cases tl : t.led with
      | true =>
        refine wp_if_neg (by simp) ?_
        try refine wpAny_bind (wpAny_pure ?_)
        exact main
      | false =>
        refine wp_if_pos (by simp) ?_
        refine wpAny_bind (calm_row z (fun y hy => ?_) ?_)
        · obtain ⟨p, hp, rfl⟩ := List.mem_map.mp hy
          have hp2 : p ∈ es.toList := by
            have := (show p ∈ es ∧ _ by simpa using hp).1
            simpa using this
          rw [R.list] at hp2
          obtain ⟨r2, h2, rfl⟩ := List.mem_map.mp hp2
          exact ⟨_, _, rfl, R.words r2 h2⟩
        · refine wp_if_neg (by decide) ?_
          try refine wpAny_bind (wpAny_pure ?_)
          exact main
    · have pr2 : t.probe (fun i => (es[i]?.map (·.1)).getD 0) (hW P w k) (from_.getD (t.probeStart (hW P w k))) = some (.empty (way t.mask (hW P w k) N) none) := by
        have e := stepj (N - c)
        rw [Nat.add_sub_cancel' cN] at e
        rw [ef, ← e]; exact pr
      rw [pr2]
      dsimp only
      refine wpAny_pure (qn fun m => ?_)
      obtain ⟨r, rL, er⟩ := List.mem_map.mp m
      obtain ⟨i, iL, ei⟩ := List.getElem_of_mem rL
      have e1 : L[i]? = some r := by rw [List.getElem?_eq_getElem iL, ei]
      obtain ⟨b, b1, b2, b3⟩ := later i r e1 er
      exact pno (b - c) i (by omega) (by rw [stepj, Nat.add_sub_cancel' b1]; exact b3) ((hashes i r e1).trans (by rw [er]))
theorem seek0 (R : RSet P w s.heap a L es ep t) {x : Addr} {k : List Str} (z : Wd P w s.heap k x) (hu : A.units < cLine) {Q : SetFound → Shared → Prop} (qy : k ∈ L.map Prod.snd → Q (.there none) s)
    (qn : ∀ N, k ∉ L.map Prod.snd → way t.mask (hW P w k) N ∉ t.place.toList → (∀ c, c < N → way t.mask (hW P w k) c ∈ t.place.toList) → Q (.free (way t.mask (hW P w k) N) false) s) :
    wpAny (model P w) A (setSearch a (.ref x) (hW P w k) true) Q E s := by
  have rm := R.room
  obtain ⟨N, n1, n2, n3⟩ := R.tab.first (by rw [List.length_map]; omega) (hW P w k)
  have n4 : N < 100000 := by
    unfold SetTable.turns at n1
    rcases R.tab.mok with e | e | e <;> (rw [e] at n1; omega)
  refine seek R z hu n1 n2 n3 qy (fun no => qn N no n2 n3) 100000 0 none rfl (Nat.zero_le _) (by omega) fun i r e1 e2 => ?_
  have iL := (List.getElem?_eq_some_iff.mp e1).1
  have pl : i < t.place.toList.length := by rw [Array.length_toList, R.tab.sz, List.length_map]; exact iL
  obtain ⟨d, d1, d2⟩ := R.tab.before n2 (i := i) (j := t.place.toList[i]) (by rw [List.getElem?_map, e1, ← e2]; rfl) (List.getElem?_eq_getElem pl)
  exact ⟨d, Nat.zero_le _, d1, by rw [List.getElem?_eq_getElem pl, d2]⟩
theorem wd_but {h h' : Heap} {k : List Str} {b : Addr} {o : Obj} (z : Wd P w h k b) (g1 : h.get? a = some o) (g2 : o.data = .set es ep t) (sb : Heap.SameBut a h h') : Wd P w h' k b := by
  obtain ⟨o2, us, m, q1, q2, q3, q4⟩ := z
  refine ⟨o2, us, m, (sb.2 b fun e => ?_).trans q1, q2, q3, q4⟩
  rw [e, g1] at q1
  rw [← Option.some.inj q1, g2] at q3
  cases q3
theorem perm_in {α : Type} (l : List α) (n : Nat) (x : α) : (l.take n ++ x :: l.drop n).Perm (x :: l) := by
  have e : (x :: l).Perm (x :: (l.take n ++ l.drop n)) := by rw [List.take_append_drop]
  exact List.perm_middle.trans e.symm
theorem fm_congr {α β : Type} {f g : α → Option β} : ∀ {l : List α}, (∀ x, x ∈ l → f x = g x) → l.filterMap f = l.filterMap g
  | [], _ => rfl
  | x :: l, h => by rw [List.filterMap_cons, List.filterMap_cons, h x (.head _), fm_congr fun y hy => h y (.tail _ hy)]
theorem rents_order {es : Array (Int × Value)} {ord : Array Nat} (h : es.toList = ents P w L) (pm : ord.toList.Perm (List.range L.length)) :
    ∃ L1, (ord.filterMap (es[·]?)).toList = ents P w L1 ∧ L1.Perm L ∧ (L1.map fun r => hW P w r.2) = ord.toList.map fun i => (es.map (·.1)).getD i 0 := by
  refine ⟨ord.toList.filterMap (L[·]?), ?_, ?_, ?_⟩
  · rw [Array.toList_filterMap, ents, List.map_filterMap]
    refine congrArg (fun f => List.filterMap f ord.toList) (funext fun i => ?_)
    cases e : L[i]? with
    | some r => rw [rents_at h e]; rfl
    | none =>
      have : es.size ≤ i := by rw [rents_len h]; exact List.getElem?_eq_none_iff.mp e
      rw [Array.getElem?_eq_none this]; rfl
  · refine (pm.filterMap _).trans (List.Perm.of_eq ?_)
    refine List.ext_getElem? fun i => ?_
    have e : (List.range L.length).filterMap (L[·]?) = (List.range L.length).map (fun i => L.getD i default) := by
      rw [← List.filterMap_eq_map]
      refine fm_congr fun j hj => ?_
      have lt := List.mem_range.mp hj
      simp [List.getD, List.getElem?_eq_getElem lt]
    rw [e, List.getElem?_map]
    rcases Nat.lt_or_ge i L.length with l | l
    · rw [List.getElem?_range l, List.getElem?_eq_getElem l]
      simp [List.getD, List.getElem?_eq_getElem l]
    · rw [List.getElem?_eq_none (by rw [List.length_range]; exact l), List.getElem?_eq_none l]; rfl
  · rw [List.map_filterMap, ← List.filterMap_eq_map]
    refine fm_congr fun i hi => ?_
    have lt : i < L.length := List.mem_range.mp (pm.mem_iff.mp hi)
    have e1 := rents_at h (List.getElem?_eq_getElem lt)
    rw [List.getElem?_eq_getElem lt]
    simp [Array.getD_eq_getD_getElem?, e1]
theorem lay_anew {o : Obj} (g1 : s.heap.get? a = some o) (gx : o.ExactSet) (g2 : o.data = .set es ep t) (hl : es.toList = ents P w L) (h1 : t.place.size = es.size) (h2 : t.dummies = #[]) (h3 : es.size ≤ t.mask)
    (h4 : (L.map Prod.snd).Nodup) (h5 : ∀ r, r ∈ L → Wd P w s.heap r.2 r.1) (h6 : L.length < 64) {want m : Nat} (w1 : SetTable.sizeAbove want = m + 1) (w2 : MaskOk m) (w3 : 5 * L.length < 3 * m) {Q : Unit → Shared → Prop}
    (q : ∀ h' L' es' ep' t', Heap.SameBut a s.heap h' → RSet P w h' a L' es' ep' t' → L'.Perm L → Q () { s with heap := h' }) : wpAny (model P w) A (setRelay a want) Q E s := by
  have n1 := rents_len hl
  have ft : t.fits es.size = true := by
    simp only [SetTable.fits, SetTable.fill, h2, h1, beq_self_eq_true, Bool.true_and, decide_eq_true_eq]
    exact h3
  have m128 : m ≤ 127 := by rcases w2 with e | e | e <;> omega
  obtain ⟨t1, ord, e1, e2, e3, e4, e5, e6, e7⟩ := relaid_ok t (hs := es.map (·.1)) (wanted := want) (M := m) (by omega) w2 (by rw [Array.size_map]; omega)
  rw [Array.size_map, n1] at e2
  obtain ⟨L1, l1, l2, l3⟩ := rents_order hl e2
  have n2 := rents_len l1
  have n3 := l2.length_eq
  rw [setRelay_eq]
  refine wpAny_bind (wpAny_setState_of g1 g2 ft ?_)
  dsimp only
  refine wp_if_neg (by rw [sizeLine_eq]; omega) ?_
  try refine wpAny_bind (wpAny_pure ?_)
  rw [e1]
  dsimp only
  refine wpAny_bind ?_
  refine wp_if_neg (by rw [n2, n3, n1]; simp) ?_
  try refine wpAny_bind (wpAny_pure ?_)
  refine wpAny_pure ?_
  dsimp only
  refine wpAny_storeSet_of g1 g2 ?_ (by rw [n2, n3, sizeLine_eq]; omega)
  have sb : Heap.SameBut a s.heap (s.heap.update a (Obj.putSet (ord.filterMap (es[·]?)) t1)) := Heap.SameBut.update ..
  rw [← l3] at e3
  exact q _ L1 (ord.filterMap (es[·]?)) (ep + 1) t1 sb ⟨⟨_, store_at g1 g2, ⟨gx.1, gx.2.1, gx.2.2⟩, rfl⟩, l1, e3, (l2.map _).nodup_iff.mpr h4, fun r hr => wd_but (h5 r (l2.mem_iff.mp hr)) g1 g2 sb, by rw [n3, e4]; exact w3, by rw [n3]; exact h6⟩ l2
theorem put_row (R : RSet P w s.heap a L es ep t) {x : Addr} {k : List Str} (z : Wd P w s.heap k x) (hu : A.units < cLine) (fw : L.length < 63) {Q : Bool → Shared → Prop}
    (q : ∀ b h' L' es' ep' t', Heap.SameBut a s.heap h' → RSet P w h' a L' es' ep' t' → (k ∈ L.map Prod.snd → L' = L) → (k ∉ L.map Prod.snd → L'.Perm ((x, k) :: L)) → Q b { s with heap := h' }) :
    wpAny (model P w) A (setAddHashed a (.ref x) (hW P w k)) Q E s := by
  obtain ⟨o, g1, gx, g2⟩ := R.obj
  have n1 := rents_len R.list
  have rm := R.room
  unfold setAddHashed
  refine wpAny_holding ?_
  show wpAny _ _ (setAddHashedIn a (.ref x) (hW P w k) (99999 + 1)) _ _ _
  rw [setAddHashedIn_succ]
  refine wpAny_bind (wpAny_setState_of g1 g2 R.fits ?_)
  dsimp only
  refine wp_if_neg (by simp [byScan, Value.scannable]) ?_
  try refine wpAny_bind (wpAny_pure ?_)
  refine wpAny_bind (seek0 R z hu (fun yes => ?_) fun N no v1 v2 => ?_)
  · dsimp only
    exact wpAny_pure (q false s.heap L es ep t (Heap.SameBut.refl a s.heap) R (fun _ => rfl) fun n => absurd yes n)
  · dsimp only
    refine wpAny_bind (wpAny_setState_of g1 g2 R.fits ?_)
    dsimp only
    obtain ⟨p1, p2, p3, p4, p5, p6, p7, p8, p9⟩ := R.tab.put v1 v2
    generalize ep0 : t.put (way t.mask (hW P w k) N) = pt at p1 p3 p4 p5 p6 p7 p8 p9 ⊢
    obtain ⟨t0, at_⟩ := pt
    dsimp only at p1 p3 p4 p5 p6 p7 p8 p9 ⊢
    subst p1
    generalize SetTable.below t.place (way t.mask (hW P w k) N) = at_ at p2 p3 ⊢
    have go : ∀ t1 : SetTable, t1.place = t0.place → t1.dummies = t0.dummies → t1.mask = t0.mask →
        wpAny (model P w) A (do
          storeSet a (SetTable.insertAt es at_ (hW P w k, .ref x)) t1
          if !false && t1.tooFull then setRelay a (SetTable.grown (es.size + 1))
          return true) Q E s := by
      intro t1 c1 c2 c3
      have T1 : TabOk t1 ((L.map fun r => hW P w r.2).take at_ ++ hW P w k :: (L.map fun r => hW P w r.2).drop at_) := ⟨by rw [c1]; exact p3.ris, by rw [c2]; exact p3.dm, by rw [c1]; exact p3.sz, by rw [c3]; exact p3.mok, by rw [c1, c3]; exact p3.bd, by rw [c1, c3]; exact p3.reach⟩
      have fl1 : t1.fill = L.length + 1 := by
        have : t1.fill = t0.fill := by unfold SetTable.fill; rw [c1, c2]
        rw [this, p9, List.length_map]
      have l1 : (SetTable.insertAt es at_ (hW P w k, Value.ref x)).toList = ents P w (L.take at_ ++ (x, k) :: L.drop at_) := by
        rw [SetTable.toList_insertAt, R.list, ents, ents, List.map_append, List.map_cons, List.map_take, List.map_drop]
      have T2 : TabOk t1 ((L.take at_ ++ (x, k) :: L.drop at_).map fun r => hW P w r.2) := by
        rw [List.map_append, List.map_cons, List.map_take, List.map_drop]
        exact T1
      have pm := perm_in L at_ (x, k)
      generalize L.take at_ ++ (x, k) :: L.drop at_ = L1 at l1 T2 pm
      generalize SetTable.insertAt es at_ (hW P w k, Value.ref x) = es1 at l1 ⊢
      have n2 := rents_len l1
      have n3 : L1.length = L.length + 1 := pm.length_eq
      have nd : (L1.map Prod.snd).Nodup := (pm.map Prod.snd).nodup_iff.mpr (List.nodup_cons.mpr ⟨no, R.once⟩)
      refine wpAny_bind (wpAny_storeSet_of g1 g2 ?_ (by rw [n2, n3, sizeLine_eq]; omega))
      have sb : Heap.SameBut a s.heap (s.heap.update a (Obj.putSet es1 t1)) := Heap.SameBut.update ..
      have g3 := store_at (es' := es1) (t' := t1) g1 g2
      generalize s.heap.update a (Obj.putSet es1 t1) = h1 at sb g3 ⊢
      have wd1 : ∀ r, r ∈ L1 → Wd P w h1 r.2 r.1 := fun r hr => by
        rcases List.mem_cons.mp (pm.mem_iff.mp hr) with rfl | hr
        · exact wd_but z g1 g2 sb
        · exact wd_but (R.words r hr) g1 g2 sb
      have full : t1.tooFull = decide ((L.length + 1) * 5 ≥ t.mask * 3) := by
        unfold SetTable.tooFull
        rw [fl1, c3, p4]
      rcases Classical.em (t1.tooFull = true) with y | n
      · have y2 := y
        rw [full, decide_eq_true_eq] at y2
        have two : (t.mask = 7 ∧ L.length = 4) ∨ (t.mask = 31 ∧ L.length = 18) := by
          rcases R.tab.mok with e | e | e
          · exact .inl ⟨e, by omega⟩
          · exact .inr ⟨e, by omega⟩
          · omega
        have lay : ∀ m, SetTable.sizeAbove (SetTable.grown (es.size + 1)) = m + 1 → MaskOk m → 5 * L1.length < 3 * m →
            wpAny (model P w) A (setRelay a (SetTable.grown (es.size + 1))) (fun _ v => wpAny (model P w) A (pure true) Q E v) E { s with heap := h1 } := fun m k1 k2 k3 => by
          refine lay_anew (s := { s with heap := h1 }) g3 ⟨gx.1, gx.2.1, gx.2.2⟩ rfl l1 (by rw [T2.sz, List.length_map, n2]) T2.dm (by rw [n2, n3, c3, p4]; omega) nd wd1 (by omega) k1 k2 k3 ?_
          intro h2 L2 es2 ep2 t2 sb2 R2 pm2
          exact wpAny_pure (q true h2 L2 es2 ep2 t2 (sb.trans sb2) R2 (fun y => absurd y no) fun _ => pm2.trans pm)
        first
          | (refine wpAny_bind ?_; refine wp_if_pos (by simp [y]) ?_)
          | (refine wp_if_pos (by simp [y]) ?_; refine wpAny_bind ?_)
        rcases two with ⟨_, e⟩ | ⟨_, e⟩
        · exact lay 31 (by rw [n1, e, size_20]) (.inr (.inl rfl)) (by omega)
        · exact lay 127 (by rw [n1, e, size_76]) (.inr (.inr rfl)) (by omega)
      · have n9 := n
        rw [full, decide_eq_true_eq] at n9
        first
          | refine wp_if_neg (by simp [n]) ?_
          | (refine wpAny_bind ?_; refine wp_if_neg (by simp [n]) ?_; refine wpAny_pure ?_)
        refine wpAny_pure (q true h1 L1 es1 (ep + 1) t1 sb ⟨⟨_, g3, ⟨gx.1, gx.2.1, gx.2.2⟩, rfl⟩, l1, T2, nd, wd1, by rw [n3, c3, p4]; omega, by omega⟩ (fun y => absurd y no) fun _ => pm)
    rcases Classical.em (t0.plain = true) with y | n
    · first
        | (refine wpAny_bind ?_; refine wp_if_pos y ?_; refine val_row z fun b => ?_)
        | refine wp_if_pos y (wpAny_bind (val_row z fun b => ?_))
      cases b with
      | true => simp only [if_true]; exact go t0 rfl rfl rfl
      | false => simp only [Bool.false_eq_true, if_false]; exact go { t0 with plain := false } rfl rfl rfl
    · first
        | (refine wpAny_bind ?_; refine wp_if_neg n ?_; refine wpAny_pure ?_)
        | (refine wp_if_neg n ?_; refine wpAny_bind (wpAny_pure ?_))
      simp only [if_true]
      exact go t0 rfl rfl rfl
end
end Lq
end
section
set_option Elab.async false
set_option linter.all false
set_option maxRecDepth 100000
namespace Lq
open PySem PySem.Spec PyProof.Rows L2
def nubR : List (List Str) → List (List Str)
  | [] => []
  | x :: r => if x ∈ nubR r then nubR r else x :: nubR r
theorem nubR_mem : ∀ {l : List (List Str)} {x : List Str}, x ∈ nubR l ↔ x ∈ l
  | [], x => by simp [nubR]
  | y :: r, x => by
    unfold nubR
    have ih := nubR_mem (l := r) (x := x)
    split
    · rename_i h
      rw [ih, List.mem_cons]
      refine ⟨.inr, fun q => q.elim (fun q => ?_) (fun q => q)⟩
      rw [q]; exact nubR_mem.mp h
    · rw [List.mem_cons, List.mem_cons, ih]
theorem nubR_nodup : ∀ l : List (List Str), (nubR l).Nodup
  | [] => List.nodup_nil
  | y :: r => by
    unfold nubR
    split
    · exact nubR_nodup r
    · rename_i h
      exact List.nodup_cons.mpr ⟨h, nubR_nodup r⟩
theorem nubR_le : ∀ l : List (List Str), (nubR l).length ≤ l.length
  | [] => Nat.le_refl _
  | y :: r => by
    have ih := nubR_le r
    unfold nubR
    split
    · rw [List.length_cons]; omega
    · rw [List.length_cons, List.length_cons]; omega
theorem nubR_id : ∀ {l : List (List Str)}, (nubR l).length = l.length ↔ l.Nodup
  | [] => by simp [nubR]
  | y :: r => by
    have ih := nubR_id (l := r)
    have le := nubR_le r
    unfold nubR
    rw [List.nodup_cons]
    split
    · rename_i h
      rw [List.length_cons]
      refine ⟨fun q => by omega, fun q => absurd (nubR_mem.mp h) q.1⟩
    · rename_i h
      rw [List.length_cons, List.length_cons]
      refine ⟨fun q => ⟨fun z => h (nubR_mem.mpr z), ih.mp (by omega)⟩, fun q => by rw [ih.mpr q.2]⟩
theorem nodup_len {l l' : List (List Str)} (h : l.Nodup) (h' : l'.Nodup) (e : ∀ x, x ∈ l ↔ x ∈ l') : l.length = l'.length :=
  ((List.perm_ext_iff_of_nodup h h').mpr e).length_eq
structure GotR (ks : List (Addr × List Str)) (i : Nat) (L : List (Addr × List Str)) : Prop where
  sub : ∀ p ∈ L, p ∈ ks.take i
  all : ∀ p ∈ ks.take i, p.2 ∈ L.map Prod.snd
  len : L.length ≤ i
theorem GotR.zero (ks : List (Addr × List Str)) : GotR ks 0 [] := ⟨fun p h => (by cases h), fun p h => (by simp at h), Nat.le_refl _⟩
theorem GotR.same {ks L : List (Addr × List Str)} {i : Nat} {x : Addr × List Str} (g : GotR ks i L) (h : ks[i]? = some x) (hm : x.2 ∈ L.map Prod.snd) : GotR ks (i + 1) L := by
  refine ⟨fun p hp => ?_, fun p hp => ?_, Nat.le_succ_of_le g.len⟩
  · rw [take_next h]
    exact List.mem_append_left _ (g.sub p hp)
  · rw [take_next h] at hp
    rcases List.mem_append.mp hp with z | z
    · exact g.all p z
    · rw [List.mem_singleton.mp z]; exact hm
theorem GotR.more {ks L L' : List (Addr × List Str)} {i : Nat} {x : Addr × List Str} (g : GotR ks i L) (h : ks[i]? = some x) (pm : L'.Perm (x :: L)) : GotR ks (i + 1) L' := by
  refine ⟨fun p hp => ?_, fun p hp => ?_, ?_⟩
  · rw [take_next h]
    rcases List.mem_cons.mp (pm.mem_iff.mp hp) with e | z
    · rw [e]; exact List.mem_append_right _ (List.mem_singleton.mpr rfl)
    · exact List.mem_append_left _ (g.sub p z)
  · rw [(pm.map Prod.snd).mem_iff, List.map_cons]
    rw [take_next h] at hp
    rcases List.mem_append.mp hp with z | z
    · exact List.mem_cons_of_mem _ (g.all p z)
    · rw [List.mem_singleton.mp z]; exact List.mem_cons_self
  · rw [pm.length_eq, List.length_cons]
    exact Nat.succ_le_succ g.len
section
variable {P : Program} {w : World} {A : Around} {E : Value → Shared → Prop} {s : Shared}
theorem wd_keep {h h' : Heap} {k : List Str} {b : Addr} (x : Wd P w h k b) (hk : ∀ c o, h.get? c = some o → h'.get? c = some o) : Wd P w h' k b := by
  obtain ⟨o, items, n, ho, r⟩ := x
  exact ⟨o, items, n, hk b o ho, r⟩
theorem RSet.keep {h h' : Heap} {a : Addr} {L : List (Addr × List Str)} {es : Array (Int × Value)} {ep : Nat} {t : SetTable} (R : RSet P w h a L es ep t) (ha : ∀ o, h.get? a = some o → h'.get? a = some o) (ht : ∀ p ∈ L, Wd P w h' p.2 p.1) : RSet P w h' a L es ep t := by
  obtain ⟨o, ho, r⟩ := R.obj
  exact ⟨⟨o, ha o ho, r⟩, R.list, R.tab, R.once, ht, R.room, R.few⟩
theorem rset_fresh {h : Heap} {a : Addr} {led : Bool} (ho : h.get? a = some { cls := .type "set", dict := none, data := .set #[] 0 (.fresh 0 0 led) }) : RSet P w h a [] #[] 0 (.fresh 0 0 led) where
  obj := ⟨_, ho, ⟨rfl, rfl, rfl⟩, rfl⟩
  list := rfl
  tab := ⟨List.Pairwise.nil, rfl, rfl, .inl rfl, fun x hx => (by cases hx), fun i h j hi => (by simp at hi)⟩
  once := List.nodup_nil
  words := fun p hp => (by cases hp)
  room := by
    show 5 * 0 < 3 * 7
    decide
  few := by
    show 0 < 64
    decide
theorem loop_rows {I : Addr} {fp wr : List Addr} {G : Array GenState → Array GenState → Prop} {n : Nat} {Pv : Nat → Value → Prop} {St : Nat → Shared → Prop} {R : Result → Shared → Prop}
    (W : WalksS P w A.in1 I fp wr G n Pv St) (S : Addr) (hSf : S ∉ fp) (ks : List (Addr × List Str)) (hn : n = ks.length) (hfew : ks.length < 64) (hval : ∀ i v, Pv i v → ∃ p, ks[i]? = some p ∧ v = .ref p.1)
    (h0 : Heap) (hk : ∀ p ∈ ks, Wd P w h0 p.2 p.1) (hS0 : h0.get? S = none) (hw0 : ∀ b ∈ wr, h0.get? b = none) (hu : A.in1.units < cLine) :
    ∀ (k i : Nat) (s : Shared), n - i = k → i ≤ n → St i s → (∀ b o, h0.get? b = some o → s.heap.get? b = some o) → (∃ L es ep t, RSet P w s.heap S L es ep t ∧ GotR ks i L) →
      (∀ s' L es ep t, Moved (S :: wr) G s s' → RSet P w s'.heap S L es ep t → GotR ks n L → (∀ b o, h0.get? b = some o → s'.heap.get? b = some o) → R (.ok (.ret .none)) s') →
      codeAny (model P w) A (.builtin "set.update.loop" ⟨[.ref S, .ref I], []⟩) R s := by
  have hSw : S ∉ wr := fun h => hSf (W.sub _ h)
  have hsub : ∀ b ∈ wr, b ∈ S :: wr := fun b hb => List.mem_cons_of_mem _ hb
  have keepM : ∀ {s s' : Shared}, Moved wr G s s' → (∀ b o, h0.get? b = some o → s.heap.get? b = some o) → ∀ b o, h0.get? b = some o → s'.heap.get? b = some o := fun hm hkp b o e =>
    hm.heap b o (fun hb => by rw [hw0 b hb] at e; cases e) (hkp b o e)
  intro k
  induction k with
  | zero =>
    intro i s hk' hi hst hkp ⟨L, es, ep, t, hS, g⟩ hR
    have hin : i = n := by omega
    subst hin
    refine codeAny_builtin PyProof.Rows.F.entry_set_update_loop ?_
    rw [Around.under_plainId PyProof.Rows.F.plain_set_update_loop _]
    show wpAny _ A.in1 (pyNext (.ref I) >>= _) _ _ s
    refine wpAny_bind (W.done s _ _ hst fun s' hm => ?_)
    show wpAny _ A.in1 (PySem.ret Value.none) _ _ s'
    have hkp' := keepM hm hkp
    have sub : ∀ p ∈ L, p ∈ ks := fun p hp => List.mem_of_mem_take (g.sub p hp)
    exact wpAny_pure (hR s' L es ep t (hm.mono hsub) (hS.keep (fun o e => hm.heap S o hSw e) fun p hp => wd_keep (hk p (sub p hp)) hkp') g hkp')
  | succ k ih =>
    intro i s hk' hi hst hkp ⟨L, es, ep, t, hS, g⟩ hR
    have hlt : i < n := by omega
    refine codeAny_builtin PyProof.Rows.F.entry_set_update_loop ?_
    rw [Around.under_plainId PyProof.Rows.F.plain_set_update_loop _]
    show wpAny _ A.in1 (pyNext (.ref I) >>= _) _ _ s
    refine wpAny_bind (W.item i s _ _ hlt hst fun v s' hP hst' hm => ?_)
    obtain ⟨p, hp, rfl⟩ := hval i v hP
    have hkp' := keepM hm hkp
    have sub : ∀ p ∈ L, p ∈ ks := fun p hp => List.mem_of_mem_take (g.sub p hp)
    have hS' : RSet P w s'.heap S L es ep t := hS.keep (fun o e => hm.heap S o hSw e) fun q hq => wd_keep (hk q (sub q hq)) hkp'
    have hx : Wd P w s'.heap p.2 p.1 := wd_keep (hk p (List.mem_of_getElem? hp)) hkp'
    show wpAny _ A.in1 (holding [Value.ref p.1] (setAdd S (.ref p.1)) >>= _) _ _ s'
    refine wpAny_bind (wpAny_holding ?_)
    unfold setAdd
    refine wpAny_holding ?_
    refine wpAny_bind (wpAny_pyHash_tuple hu hx ?_)
    refine put_row (s := { s' with toks := s'.toks + (p.2.length + 1) }) hS' hx hu (by have := g.len; omega) fun b h' L' es' ep' t' hsb hS2 c1 c2 => ?_
    have g' : GotR ks (i + 1) L' := by
      rcases Classical.em (p.2 ∈ L.map Prod.snd) with c | c
      · rw [c1 c]; exact g.same hp c
      · exact g.more hp (c2 c)
    have hkp2 : ∀ b o, h0.get? b = some o → h'.get? b = some o := fun b o e => (hsb.2 b (fun z => by rw [z, hS0] at e; cases e)).trans (hkp' b o e)
    refine wpAny_pure ⟨plainId_quiet PyProof.Rows.F.plain_set_update_loop _, ih (i + 1) _ (by omega) hlt (W.frame _ s' _ _ hst' (Nat.le_add_right _ _) fun b hb o e => ?_) hkp2 ⟨L', es', ep', t', hS2, g'⟩ fun s'' L2 es2 ep2 t2 hm'' hS'' g'' hkp'' => ?_⟩
    · rw [hsb.2 b (fun h : b = S => hSf (by rw [← h]; exact hb))]; exact e
    · refine hR s'' L2 es2 ep2 t2 (Moved.trans W.gtrans ((hm.mono hsub).then_heap (Nat.le_add_right _ _) fun b o hb e => ?_) hm'') hS'' g'' hkp''
      rw [hsb.2 b (fun h : b = S => hb (by rw [h]; exact List.mem_cons_self))]; exact e
set_option maxRecDepth 100000 in
set_option maxHeartbeats 3200000 in
theorem call_set_rows {l : Addr} {items : Array Value} (ks : List (Addr × List Str)) {Q : Value → Shared → Prop} (hh : A.handled = none) (hl : s.heap.IsList l items) (hit : items.toList = ks.map fun p => Value.ref p.1)
    (hk : ∀ p ∈ ks, Wd P w s.heap p.2 p.1) (hfew : ks.length < 64) (hu : A.units + 3 < cLine)
    (h : ∀ (h' : Heap) (tk : Nat) L es ep t, RSet P w h' s.heap.objs.size L es ep t → GotR ks ks.length L → (∀ b o, s.heap.get? b = some o → h'.get? b = some o) → Q (.ref s.heap.objs.size) { s with heap := h', toks := tk }) :
    wpAny (model P w) A (call (.type "set") [.ref l]) Q E s := by
  have hisz : items.size = ks.length := by
    have q := congrArg List.length hit
    rw [Array.length_toList, List.length_map] at q
    exact q
  obtain ⟨c, tl, hmro⟩ := PySem.F.called_set.mro
  have hmade := PySem.F.called_set.made
  have hsub := PySem.F.called_set.sub
  refine wpAny_call (codeAny_of_tree ?_)
  show wpAny _ _ (callAny (.type "set") _) _ _ _
  refine wpAny_pure ⟨Code.quiet_builtin _ (by decide +kernel), codeAny_builtin PySem.F.entry_type_call ?_⟩
  rw [Around.under_plain (weight_type_call_type "set" [.ref l] []) rfl]
  have h1 := PySem.F.called_set.notType
  have h2 := PySem.F.called_set.canCreate
  have hct := PySem.F.typeCall_set_1 (.ref l)
  repeat (any_goals (first | assumption | wp_step))
  refine codeAny_mono (code_set_new_1 (.ref l) (E := E) (Q₁ := fun obj s₁ => ∃ led : Bool, obj = .ref s.heap.objs.size ∧ s₁ = { s with heap := s.heap.push { cls := .type "set", dict := none, data := .set #[] 0 (.fresh 0 0 led) } }) fun led => ⟨led, rfl, rfl⟩) fun r s₁ hr => ?_
  cases r with
  | error e => exact hr
  | ok fl =>
    cases fl with
    | ret obj =>
      obtain ⟨led, rfl, rfl⟩ := hr
      have hS : (s.heap.push { cls := .type "set", dict := none, data := .set #[] 0 (.fresh 0 0 led) }).get? s.heap.objs.size = some { cls := .type "set", dict := none, data := .set #[] 0 (.fresh 0 0 led) } := Heap.get?_push_size _ rfl
      have hT : Shared.TypeIs { s with heap := s.heap.push { cls := .type "set", dict := none, data := .set #[] 0 (.fresh 0 0 led) } } (.ref s.heap.objs.size) "set" := ⟨_, hS, rfl⟩
      have hli := PySem.F.called_set.init.lookup
      have hbi := PySem.F.called_set.init.bind (.ref s.heap.objs.size)
      repeat (any_goals (first | assumption | wp_step))
      refine codeAny_mono (codeAny_call_builtin (R := wants (fun r s₂ => r = .none ∧ ∃ h' tk L es ep t, s₂ = { s with heap := h', toks := tk } ∧ RSet P w h' s.heap.objs.size L es ep t ∧ GotR ks ks.length L ∧
          (∀ b o, s.heap.get? b = some o → h'.get? b = some o)) E) PySem.F.called_set.init.plain PySem.F.entry_set_init (check_set_init_1 hT ?_)) fun r₂ s₂ hr₂ => ?_
      · obtain ⟨ol, hol, hcl, nl, hdl⟩ := hl
        obtain ⟨ocls, odict, odata, oslots⟩ := ol
        simp only at hcl hdl
        subst hcl; subst hdl
        have hol' : (s.heap.push { cls := .type "set", dict := none, data := .set #[] 0 (.fresh 0 0 led) }).get? l = some { cls := .type "list", dict := odict, data := .seq items nl, slots := oslots } := Heap.get?_push_of_some _ hol
        have hsls := PySem.F.sub_list_set
        have hslf := PySem.F.sub_list_frozenset
        have hne : (Value.type "list" == Value.type "dict") = false := by decide
        have hl1 : (s.heap.push { cls := .type "set", dict := none, data := .set #[] 0 (.fresh 0 0 led) }).IsList l items := ⟨_, hol', rfl, nl, rfl⟩
        unfold Builtin.«set.__init__» noKeywords Builtin.Frozenset.updateFrom
        generalize hPI : pyIter = PI
        wp_walk
        subst hPI
        refine wpAny_pyIter_list hl1 ?_
        refine wpAny_bind (wpAny_runValue ?_)
        have hlS : l < s.heap.objs.size := Heap.lt_size hol
        have hh3 : A.in1.in1.in1.handled = none := by simp [hh]
        have hneI : l ≠ (s.heap.push { cls := .type "set", dict := none, data := .set #[] 0 (.fresh 0 0 led) }).objs.size := by
          rw [Heap.size_push]; exact Nat.ne_of_lt (Nat.lt_succ_of_lt hlS)
        have hSf : s.heap.objs.size ∉ [(s.heap.push { cls := .type "set", dict := none, data := .set #[] 0 (.fresh 0 0 led) }).objs.size, l] := by
          rw [Heap.size_push]; simp only [List.mem_cons, List.mem_singleton, List.not_mem_nil, or_false, not_or]
          exact ⟨Nat.ne_of_lt (Nat.lt_succ_self _), Nat.ne_of_gt hlS⟩
        have hval : ∀ (i : Nat) (v : Value), items[i]? = some v → ∃ p, ks[i]? = some p ∧ v = .ref p.1 := fun i v hv => by
          have q : items.toList[i]? = some v := by rw [Array.getElem?_toList]; exact hv
          rw [hit, List.getElem?_map] at q
          cases hq : ks[i]? with
          | none => rw [hq] at q; cases q
          | some p =>
            rw [hq] at q
            exact ⟨p, rfl, (Option.some.inj q).symm⟩
        have none_of : ∀ b, s.heap.objs.size ≤ b → s.heap.get? b = none := fun b hb => by
          cases q : s.heap.get? b with
          | none => rfl
          | some o => exact absurd (Nat.lt_of_lt_of_le (Heap.lt_size q) hb) (Nat.lt_irrefl _)
        refine loop_rows ((Walks.list hh3 _ l hneI items).toS) s.heap.objs.size
          hSf ks hisz hfew hval s.heap hk (none_of _ (Nat.le_refl _)) (fun b hb => none_of b (by
            rw [List.mem_singleton.mp hb, Heap.size_push]
            exact Nat.le_succ _)) hu (items.size - 0) 0 _ (by omega) (Nat.zero_le _)
          ⟨⟨_, Heap.get?_push_size _ rfl, rfl, rfl⟩, (hl1.push _)⟩ (fun b o e => Heap.get?_push_of_some _ (Heap.get?_push_of_some _ e)) ?hS0 ?hR
        case hS0 =>
          have hget : ((s.heap.push { cls := .type "set", dict := none, data := .set #[] 0 (.fresh 0 0 led) }).push { cls := .type "list_iterator", data := .fields #[.ref l, .int 0 0] }).get? s.heap.objs.size
              = some { cls := .type "set", dict := none, data := .set #[] 0 (.fresh 0 0 led) } := Heap.get?_push_of_some _ hS
          exact ⟨[], #[], 0, _, rset_fresh hget, GotR.zero ks⟩
        case hR =>
          intro s' L es ep t hm hS' g' hkp
          obtain ⟨h', g2, d', tk', os'⟩ := s'
          have eg : g2 = s.gens := hm.gens
          have ed : d' = s.drawn := hm.drawn
          have eo : os' = s.os := hm.os
          subst eg; subst ed; subst eo
          show wpAny _ _ _ _ _ _
          refine wpAny_pure ?_
          show wpAny _ _ (PySem.ret Value.none) _ _ _
          rw [hisz] at g'
          exact wpAny_pure ⟨rfl, h', tk', L, es, ep, t, rfl, hS', g', hkp⟩
      · cases r₂ with
        | error e => exact hr₂
        | ok fl₂ =>
          cases fl₂ with
          | ret r =>
            obtain ⟨rfl, h', tk, L, es, ep, t, rfl, hS', g', hk'⟩ := hr₂
            repeat (any_goals (first | assumption | wp_step))
            exact h _ _ _ _ _ _ hS' g' hk'
          | _ => exact hr₂.elim
    | _ => exact hr.elim
end
theorem words_vals {P : Program} {w : World} : ∀ {k : List Str} {us : List Value}, Vals (k.map V.str) us → ItemsAre (PySem.strKind P w) k us
  | [], _, .nil => .nil
  | n :: k, _, .cons r t => by
    obtain ⟨tk, rfl⟩ := r
    exact .cons (strKind_is P w n tk) (words_vals t)
theorem refs_vals : ∀ {ks : List (Addr × List Str)} {us : List Value}, Vals (ks.map fun p => V.ref p.1) us → us = ks.map fun p => Value.ref p.1
  | [], _, .nil => rfl
  | p :: ks, _, .cons r t => by
    cases r
    rw [refs_vals t] <;> rfl
section
variable {X : Cx} {E : XK} {a : Expr} {fa : XE}
theorem wd_inv {pins : List (Addr × Obj)} {σ : L2.St} {H : Hp} {s : Shared} {b : Addr} {k : List Str} (I : Inv X pins σ H s) (h : SqT X.K H b (k.map V.str)) : Wd X.prog X.w s.heap k b := by
  obtain ⟨its, r, ⟨o, ho, hc, n, hd⟩, _⟩ := I.tuple h
  exact ⟨o, its.toArray, n, ho, hc, hd, by simpa using words_vals r⟩
def tLenSetT (K : PySem.W.Frag) (ta : TE) : TE := fun σ H Q => ta σ H fun x H1 => ∃ (l : Addr) (ks : List (Addr × List Str)), x = V.ref l ∧ SqL K H1 l (ks.map fun p => V.ref p.1) ∧ (∀ p ∈ ks, SqT K H1 p.1 (p.2.map V.str)) ∧ ks.length < 64 ∧ Q (.int (nubR (ks.map Prod.snd)).length) H1
theorem pe_lenSetT {ta : TE} {p p2 q pos : Pos} (hu : X.A.units + 65 < cLine) (hc : X.calm = true) (hg : Gl X "len") (hm : X.mg "len" = none) (hg2 : Gl X "set") (hm2 : X.mg "set" = none) (ha : PE X a ta)
    (na : starEach [a] X.env = (false, eval a X.env) :: starEach [] X.env := by rfl) : PE X (.Call (.Name "len" p) [.Call (.Name "set" p2) [a] [] q] [] pos) (tLenSetT X.K ta) := by
  refine ⟨fun pins s σ H Q I h => ?_⟩
  refine Call_ (ld_blt I hg hm PySem.boot_len ?_)
  refine PyProof.Rows.callWith_builtin1 (PyProof.Rows.args_cons ?_ rfl) rfl rfl
  refine Call_ (ld_blt I hg2 hm2 boot_set ?_)
  refine PyProof.Rows.callWith_type1 (PyProof.Rows.args_cons (thn (ha.run pins s σ H _ I h) fun v s1 ⟨x, H1, I1, r1, q1⟩ => PyProof.Rows.args_nil ?_) na) na rfl
  obtain ⟨l, ks, rfl, hq, hk, h64, q1⟩ := q1
  cases r1
  obtain ⟨its, r, pl, hz⟩ := I1.list hq
  refine call_set_rows (P := X.prog) (w := X.w) ks (I1.ok.hd hc) pl.isList (by simpa using refs_vals r) (fun p hp => wd_inv I1 (hk p hp)) h64 (by omega) fun h' tk L es ep t R g k => ?_
  refine PyProof.Rows.args_nil ?_
  obtain ⟨o, ho, hex, hd⟩ := R.obj
  have I2 : Inv X pins σ H1 { s1 with heap := h', toks := tk } := I1.kept k
  have n1 := rents_len R.list
  have nl : L.length = (nubR (ks.map Prod.snd)).length := by
    rw [← List.length_map (f := Prod.snd) (as := L)]
    refine nodup_len R.once (nubR_nodup _) fun x => ?_
    rw [nubR_mem]
    constructor
    · intro hx
      obtain ⟨p, hp, rfl⟩ := List.mem_map.mp hx
      exact List.mem_map.mpr ⟨p, List.mem_of_mem_take (g.sub p hp), rfl⟩
    · intro hx
      obtain ⟨p, hp, rfl⟩ := List.mem_map.mp hx
      exact g.all p (by rw [List.take_length]; exact hp)
  have f := R.few
  refine call_len_set ho hex hd (RSet.fits (s := { s1 with heap := h', toks := tk }) R) (by rw [n1]; omega) ⟨.int (nubR (ks.map Prod.snd)).length, H1, I2.tok _, ⟨_, by rw [n1, nl]⟩, q1⟩
def rowsOf : List PV → Option (List (List Str))
  | [] => some []
  | .tup xs :: r => (match strsOf xs, rowsOf r with
    | some z, some zs => some (z :: zs)
    | _, _ => none)
  | _ :: _ => none
theorem rowsOf_eq : ∀ {xs : List PV} {zs : List (List Str)}, rowsOf xs = some zs → xs = zs.map fun z => .tup (z.map PV.str)
  | [], zs, h => by cases h; rfl
  | x :: r, zs, h => by
    cases x <;> first | (simp [rowsOf] at h; done) | skip
    rename_i ys
    cases e1 : strsOf ys with
    | none => simp [rowsOf, e1] at h
    | some z =>
      cases e2 : rowsOf r with
      | none => simp [rowsOf, e1, e2] at h
      | some ms =>
        have : zs = z :: ms := by simp [rowsOf, e1, e2] at h; exact h.symm
        subst this
        rw [rowsOf_eq e2, strsOf_eq e1]; rfl
theorem rep_strs {K : PySem.W.Frag} {mg : Str → Option Value} {Fz : Hp} {ρ : List Addr} : ∀ {zs : List Str} {vs : List V}, RepL K mg Fz ρ (zs.map PV.str) vs → vs = zs.map V.str
  | [], _, h => by rw [List.map_nil, RepL] at h; exact h
  | n :: ns, _, h => by
    rw [List.map_cons, RepL] at h
    obtain ⟨v, r, rfl, h1, h⟩ := h
    rw [Rep] at h1
    rw [h1, rep_strs h]; rfl
theorem rep_rows {K : PySem.W.Frag} {mg : Str → Option Value} {Z Fz : Hp} {ρ : List Addr} {st : Store} {H : Hp} (rl : Rel K mg Z Fz ρ st H) : ∀ {zs : List (List Str)} {vs : List V}, RepL K mg Fz ρ (zs.map fun z => PV.tup (z.map PV.str)) vs →
    ∃ ks : List (Addr × List Str), vs = (ks.map fun p => V.ref p.1) ∧ ks.map Prod.snd = zs ∧ ∀ p ∈ ks, SqT K H p.1 (p.2.map V.str)
  | [], _, h => by rw [List.map_nil, RepL] at h; subst h; exact ⟨[], rfl, rfl, fun p hp => nomatch hp⟩
  | z :: zs, _, h => by
    rw [List.map_cons, RepL] at h
    obtain ⟨v, r, rfl, h1, h2⟩ := h
    obtain ⟨ks, e1, e2, e3⟩ := rep_rows rl h2
    obtain ⟨a, vs, rfl, sq, _, rr⟩ := tup_ok rl h1
    rw [rep_strs rr] at sq
    refine ⟨(a, z) :: ks, by rw [e1]; rfl, by rw [List.map_cons, e2], fun p hp => ?_⟩
    rcases List.mem_cons.mp hp with rfl | hp
    · exact sq
    · exact e3 p hp
def eLenSetT (f : XE) : XE := fun env st => (f env st).bind fun p s => match asL s p with
  | some xs => (match rowsOf xs with
    | some zs => if zs.length < 64 then .ok (.int (nubR zs).length) s else .no
    | none => .no)
  | none => .no
theorem je_lenSetT {p p2 q pos : Pos} (hu : X.A.units + 65 < cLine) (hc : X.calm = true) (ha : JE X E a fa) (hm : X.mg "len" = none) (hm2 : X.mg "set" = none) (hg : Gl X "len" := by rfl) (hg2 : Gl X "set" := by rfl)
    (na : starEach [a] X.env = (false, eval a X.env) :: starEach [] X.env := by rfl) : JE X E (.Call (.Name "len" p) [.Call (.Name "set" p2) [a] [] q] [] pos) (eLenSetT fa) := by
  obtain ⟨t, pt, s⟩ := ha
  refine ⟨_, pe_lenSetT hu hc hg hm hg2 hm2 pt na, fun Z Fz ρ env st σ H Q rl hh o => ?_⟩
  refine s Z Fz ρ env st σ H _ rl hh (o.seq.mono fun x s1 F1 r1 H1 hq ex1 rl1 o1 x' rx => ?_)
  clear hq
  split at o1
  · rename_i xs es
    split at o1
    · rename_i zs en
      split at o1
      · rename_i h64
        obtain ⟨ad, ws, rfl, sq, _, rr⟩ := asL_ok rl1 rx es
        rw [rowsOf_eq en] at rr
        obtain ⟨ks, e1, e2, e3⟩ := rep_rows rl1 rr
        rw [e1] at sq
        refine ⟨ad, ks, rfl, sq, e3, by rw [← List.length_map (f := Prod.snd), e2]; exact h64, ?_⟩
        rw [e2]
        exact o1.here rl1 _ (by rw [Rep])
      · exact o1.elim
    · exact o1.elim
  · exact o1.elim
end
end Lq
end
section
set_option Elab.async false
set_option linter.all false
set_option maxRecDepth 100000
set_option maxHeartbeats 0
namespace Gk40
open PySem PySem.Spec PyProof.Rows L2 Lq
def top (i : Nat) : Stmt := PySem.Challenge.pw_lotscales_k40_whole_further.main.body.getD i (.Pass ⟨0, 0, 0, 0⟩)
def f__law_town : Fn := runF 1
    (sRet (eOw (fAdd (eFz (fDisp (aCons (eC (.int 0)) aNil))) (eFz (fList (eVar 0))))))
def f_is_between : Fn := runF 3
    (sRet (eAnd (eIsi .int (eVar 0)) (eAnd (eNot (eIsi .bl (eVar 0))) (eChain oLeI oLeI (eVar 1) (eVar 0) (eVar 2)))))
def f_check_things : Fn := runF 1
    (sIf (tNotF (tE (eCall 3 f_is_between (aCons (eVar 0) (aCons (eC (.int 1)) (aCons (eC (.int 5)) aNil)))))) (sRaise "InvalidThings") sNil)
def f_is_found_lot : Fn := runF 4
    (sSeq (sIf (tOrF (tNotF (tE (eIsi .tup (eVar 1)))) (tNotF (tE (eCB oAll (aCons (eFz (fComp (iVal (eVar 1)) (gNm 2) (fun _ st => .ok true st) (eCall 3 f_is_between (aCons (eVar 2) (aCons (eC (.int 0)) (aCons (eBin oSub (eVar 0) (eC (.int 1))) aNil)))) [2])) aNil))))) (sRet (eC (.bl false))) sNil)
    (sRet (eCB oAll (aCons (eFz (fComp (iRange1 (aCons (eBin oSub (eCB oLen (aCons (eVar 1) aNil)) (eC (.int 1))) aNil)) (gNm 3) (fun _ st => .ok true st) (eBin oLt (eBin oIx (eVar 1) (eVar 3)) (eBin oIx (eVar 1) (eBin oAdd (eVar 3) (eC (.int 1))))) [3])) aNil))))
def f_is_comparison : Fn := runF 2
    (sSeq (sIf (tOrF (tNotF (tE (eIsi .tup (eVar 1)))) (tOrF (tE (eBin oNe (eCB oLen (aCons (eVar 1) aNil)) (eC (.int 3)))) (tOrF (tNotF (tE (eIsi .str (eBin oIx (eVar 1) (eC (.int 1)))))) (tE (eBin oNin (eBin oIx (eVar 1) (eC (.int 1))) (eC (.tup [.str ">", .str ">=", .str "="]))))))) (sRet (eC (.bl false))) sNil)
    (sRet (eAnd (eCall 2 f_is_found_lot (aCons (eVar 0) (aCons (eBin oIx (eVar 1) (eC (.int 0))) aNil))) (eCall 2 f_is_found_lot (aCons (eVar 0) (aCons (eBin oIx (eVar 1) (eC (.int 2))) aNil))))))
def f_are_told : Fn := runF 3
    (sRet (eAnd (eIsi .tup (eVar 1)) (eAnd (eBin oLeI (eCB oLen (aCons (eVar 1) aNil)) (eC (.int 8))) (eCB oAll (aCons (eFz (fComp (iVal (eVar 1)) (gNm 2) (fun _ st => .ok true st) (eCall 2 f_is_comparison (aCons (eVar 0) (aCons (eVar 2) aNil))) [2])) aNil)))))
def f_check_told : Fn := runF 2
    (sSeq (sDrop (eCall 1 f_check_things (aCons (eVar 0) aNil)))
    (sIf (tNotF (tE (eCall 2 f_are_told (aCons (eVar 0) (aCons (eVar 1) aNil))))) (sRaise "InvalidTold") sNil))
def f_found_weight : Fn := runF 3
    (sRet (eCB oSum (aCons (eFz (fComp (iVal (eVar 1)) (gNm 2) (fun _ st => .ok true st) (eBin oIx (eVar 0) (eVar 2)) [2])) aNil)))
def f_does_hold : Fn := runF 6
    (sSeq (sAsg (eVar 1) (gTp 3 (gsCons (gNm 2) (gsCons (gNm 3) (gsCons (gNm 4) gsNil)))))
    (sSeq (sSet 5 (eBin oSub (eCall 2 f_found_weight (aCons (eVar 0) (aCons (eVar 2) aNil))) (eCall 2 f_found_weight (aCons (eVar 0) (aCons (eVar 4) aNil)))))
    (sRet (eIf (tE (eBin oNe (eVar 3) (eC (.str "=")))) (eOr (eBin oGtI (eVar 5) (eC (.int 0))) (eAnd (eBin oEq (eVar 5) (eC (.int 0))) (eBin oNe (eVar 3) (eC (.str ">"))))) (eBin oEq (eVar 5) (eC (.int 0)))))))
def f_do_agree : Fn := runF 3
    (sRet (eCB oAll (aCons (eFz (fComp (iVal (eVar 0)) (gNm 2) (fun _ st => .ok true st) (eCall 2 f_does_hold (aCons (eVar 1) (aCons (eVar 2) aNil))) [2])) aNil)))
def f_small_weights : Fn := runF 8
    (sSeq (sSet 2 (eFz (fDisp (aCons (eTup aNil) aNil))))
    (sSeq (sFor (iRange1 (aCons (eVar 0) aNil)) (gNm 3) (sSet 2 (eFz (fComp2 (iVal (eVar 2)) (gNm 4) (fun _ st => .ok true st) (iRange2 (aCons (eC (.int 1)) (aCons (eBin oAdd (eVar 1) (eC (.int 1))) aNil))) (gNm 5) (fun _ st => .ok true st) (eBin oAdd (eVar 4) (eTup (aCons (eVar 5) aNil))) [4, 5] [5]))))
    (sRet (eFz (fComp (iVal (eFz (fSorted (eFz (fComp (iVal (eVar 2)) (gNm 4) (fun _ st => .ok true st) (eTup (aCons (eCB oSumA (aCons (eVar 4) aNil)) (aCons (eVar 4) aNil))) [4]))))) (gTp 2 (gsCons (gNm 6) (gsCons (gNm 7) gsNil))) (fun _ st => .ok true st) (eVar 7) [6, 7])))))
def f_all_lots : Fn := runF 4
    (sSeq (sSet 1 (eFz (fDisp (aCons (eTup aNil) aNil))))
    (sSeq (sFor (iRange1 (aCons (eVar 0) aNil)) (gNm 2) (sSet 1 (eBin oAdd (eVar 1) (eFz (fComp (iVal (eVar 1)) (gNm 3) (fun _ st => .ok true st) (eBin oAdd (eVar 3) (eTup (aCons (eVar 2) aNil))) [3])))))
    (sRet (eFz (fSorted (eVar 1))))))
def f_found_order : Fn := runF 4
    (sSeq (sSet 1 eDct)
    (sSeq (sFor (iVal (eCall 1 f_all_lots (aCons (eCB oLen (aCons (eVar 0) aNil)) aNil))) (gNm 2) (sSeq (sSet 3 (eCall 2 f_found_weight (aCons (eVar 0) (aCons (eVar 2) aNil))))
    (sDput (eVar 1) (eVar 3) (eBin oAdd (eDget2 (eVar 1) (eVar 3) (eTup aNil)) (eTup (aCons (eVar 2) aNil))))))
    (sRet (eCB oTuple (aCons (eFz (fComp (iVal (eFz (fSortK (eVar 1)))) (gNm 3) (fun _ st => .ok true st) (eDget (eVar 1) (eVar 3)) [3])) aNil)))))
def f_found_orders : Fn := runF 4
    (sSeq (sSet 1 eDcn)
    (sSeq (sFor (iVal (eCall 2 f_small_weights (aCons (eVar 0) (aCons (eC (.int 4)) aNil)))) (gNm 2) (sSeq (sSet 3 (eCall 1 f_found_order (aCons (eVar 2) aNil)))
    (sIf (tE (eBin oNinN (eVar 3) (eVar 1))) (sAsg (eVar 2) (gSubN (eVar 1) (eVar 3))) sNil)))
    (sRet (eVar 1))))
def f_found_agreeing : Fn := runF 4
    (sSeq (sDrop (eCall 2 f_check_told (aCons (eVar 0) (aCons (eVar 1) aNil))))
    (sSeq (sIf (tE (eBin oGtI (eVar 0) (eC (.int 3)))) (sRaise "TooMany") sNil)
    (sRet (eFz (fComp (iItemsF (eFrzD (eCall 1 f_found_orders (aCons (eVar 0) aNil)))) (gTp 2 (gsCons (gNm 2) (gsCons (gNm 3) gsNil))) (tE (eCall 2 f_do_agree (aCons (eVar 1) (aCons (eVar 3) aNil)))) (eTup (aCons (eVar 2) (aCons (eVar 3) aNil))) [2, 3])))))
def f_weights_left : Fn := runF 5
    (sSeq (sSet 2 (eCB oTuple (aCons (eFz (fComp (iVal (eCall 2 f_found_agreeing (aCons (eVar 0) (aCons (eVar 1) aNil)))) (gTp 2 (gsCons (gNm 3) (gsCons (gNm 4) gsNil))) (fun _ st => .ok true st) (eVar 4) [3, 4])) aNil)))
    (sSeq (sIf (tE (eBin oEq (eVar 2) (eTup aNil))) (sRaise "NoneAgree") sNil)
    (sRet (eVar 2))))
def f_all_questions : Fn := runF 7
    (sSeq (sSet 1 (eFz (fComp (iVal (eCall 1 f_all_lots (aCons (eVar 0) aNil))) (gNm 4) (tE (eBin oNe (eVar 4) (eTup aNil))) (eVar 4) [4])))
    (sSeq (sSet 2 (eOw (fDisp aNil)))
    (sSeq (sFor (iVal (eVar 1)) (gNm 3) (sDrop (eLm goExt (eVar 2) (aCons (eFz (fComp (iVal (eVar 1)) (gNm 5) (tAndF (tE (eBin oLt (eVar 3) (eVar 5))) (tNotF (tE (eCB oAny (aCons (eFz (fComp (iVal (eVar 3)) (gNm 6) (fun _ st => .ok true st) (eBin oIn (eVar 6) (eVar 5)) [6])) aNil))))) (eTup (aCons (eVar 3) (aCons (eVar 5) aNil))) [5])) aNil))))
    (sRet (eFrz (eVar 2))))))
def f_some_numbers : Fn := runF 6
    (sSeq (sSet 2 (eFz (fDisp (aCons (eTup aNil) aNil))))
    (sSeq (sFor (iRange1 (aCons (eVar 1) aNil)) (gNm 3) (sSet 2 (eFz (fComp2 (iVal (eVar 2)) (gNm 4) (fun _ st => .ok true st) (iRange1 (aCons (eVar 0) aNil)) (gNm 5) (tOrF (tE (eBin oEq (eVar 4) (eTup aNil))) (tE (eBin oLt (eBin oIx (eVar 4) (eUn oNeg (eC (.int 1)))) (eVar 5)))) (eBin oAdd (eVar 4) (eTup (aCons (eVar 5) aNil))) [4, 5] [5]))))
    (sRet (eVar 2))))
def f_answer_of : Fn := runF 3
    (sSeq (sSet 2 (eBin oSub (eCall 2 f_found_weight (aCons (eVar 1) (aCons (eBin oIx (eVar 0) (eC (.int 0))) aNil))) (eCall 2 f_found_weight (aCons (eVar 1) (aCons (eBin oIx (eVar 0) (eC (.int 1))) aNil)))))
    (sRet (eIf (tE (eBin oGtI (eVar 2) (eC (.int 0)))) (eC (.str ">")) (eIf (tE (eBin oEq (eVar 2) (eC (.int 0)))) (eC (.str "=")) (eC (.str "<"))))))
def f_fewest_further : Fn := runF 9
    (sSeq (sSet 2 (eCall 2 f_weights_left (aCons (eVar 0) (aCons (eVar 1) aNil))))
    (sSeq (sSet 3 (eCall 1 f_all_questions (aCons (eVar 0) aNil)))
    (sSeq (sFor (iRange1 (aCons (eBin oAdd (eCB oLen (aCons (eVar 3) aNil)) (eC (.int 1))) aNil)) (gNm 4) (sFor (iVal (eCall 2 f_some_numbers (aCons (eCB oLen (aCons (eVar 3) aNil)) (aCons (eVar 4) aNil)))) (gNm 5) (sSeq (sSet 6 (eFz (fComp (iVal (eVar 2)) (gNm 7) (fun _ st => .ok true st) (eCB oTuple (aCons (eFz (fComp (iVal (eVar 5)) (gNm 8) (fun _ st => .ok true st) (eCall 2 f_answer_of (aCons (eBin oIx (eVar 3) (eVar 8)) (aCons (eVar 7) aNil))) [8])) aNil)) [7])))
    (sIf (tE (eBin oEq (eLenSetT (eVar 6)) (eCB oLen (aCons (eVar 6) aNil)))) (sRet (eCB oTuple (aCons (eFz (fComp (iVal (eVar 5)) (gNm 8) (fun _ st => .ok true st) (eBin oIx (eVar 3) (eVar 8)) [8])) aNil))) sNil))))
    (sRet (eC .non)))))
def f__law_draw : Fn := runF 6
    (sSeq (sAsg (eBin oAdd (eBin oIx (eVar 1) (eC (.int 0))) (eC (.int 1))) (gSubL (eVar 1) (eC (.int 0))))
    (sSeq (sIf (tE (eBin oEq (eVar 0) (eFz (fDisp aNil)))) (sRet (eBin oMod (eBin oDiv (eBin oMul (eBin oMul (eBin oIx (eVar 1) (eC (.int 0))) (eBin oIx (eVar 1) (eC (.int 0)))) (eC (.int 7))) (eC (.int 3))) (eVar 2))) sNil)
    (sSeq (sSet 3 (eBin oMod (eBin oIx (eVar 1) (eC (.int 0))) (eCB oLen (aCons (eVar 0) aNil))))
    (sSeq (sSet 4 (eBin oIx (eVar 1) (eBin oAdd (eC (.int 1)) (eVar 3))))
    (sSeq (sIf (tAndF (tE (eBin oGeI (eBin oIx (eVar 0) (eVar 3)) (eBin oPow (eC (.int 10)) (eC (.int 18))))) (tE (eBin oGtI (eVar 4) (eC (.int 0))))) (sSeq (sAsg (eBin oDiv (eVar 4) (eVar 2)) (gSubL (eVar 1) (eBin oAdd (eC (.int 1)) (eVar 3))))
    (sRet (eBin oMod (eVar 4) (eVar 2)))) sNil)
    (sSeq (sSet 5 (eBin oMod (eBin oAdd (eBin oIx (eVar 0) (eVar 3)) (eBin oMul (eC (.int 104729)) (eBin oIx (eVar 1) (eC (.int 0))))) (eC (.int 4294967291))))
    (sSeq (sSet 5 (eBin oMod (eBin oPow (eVar 5) (eC (.int 5))) (eC (.int 4294967279))))
    (sRet (eBin oMod (eBin oDiv (eBin oMod (eBin oAdd (eBin oMul (eBin oDiv (eVar 5) (eC (.int 64))) (eC (.int 69621))) (eVar 5)) (eC (.int 4294967231))) (eC (.int 8))) (eVar 2))))))))))
def f__law_pick : Fn := runF 3
    (sRet (eBin oIx (eVar 2) (eCall 3 f__law_draw (aCons (eVar 0) (aCons (eVar 1) (aCons (eCB oLen (aCons (eVar 2) aNil)) aNil))))))
def f__law_scale : Fn := runF 5
    (sSeq (sSet 3 (eCall 3 f__law_pick (aCons (eVar 0) (aCons (eVar 1) (aCons (eFz (fDisp (aCons (eC (.int 2)) (aCons (eC (.int 4)) (aCons (eC (.int 9)) aNil))))) aNil)))))
    (sRet (eCB oTuple (aCons (eFz (fComp (iRange1 (aCons (eVar 2) aNil)) (gNm 4) (fun _ st => .ok true st) (eBin oAdd (eC (.int 1)) (eCall 3 f__law_draw (aCons (eVar 0) (aCons (eVar 1) (aCons (eVar 3) aNil))))) [4])) aNil))))
def f__law_lots : Fn := runF 4
    (sSeq (sSet 1 (eFz (fDisp (aCons (eTup aNil) aNil))))
    (sSeq (sFor (iRange1 (aCons (eVar 0) aNil)) (gNm 2) (sSet 1 (eBin oAdd (eVar 1) (eFz (fComp (iVal (eVar 1)) (gNm 3) (fun _ st => .ok true st) (eBin oAdd (eVar 3) (eTup (aCons (eVar 2) aNil))) [3])))))
    (sRet (eFz (fSorted (eVar 1))))))
def f__law_weight : Fn := runF 3
    (sRet (eCB oSum (aCons (eFz (fComp (iVal (eVar 1)) (gNm 2) (fun _ st => .ok true st) (eBin oIx (eVar 0) (eVar 2)) [2])) aNil)))
def f__law_comparison : Fn := runF 9
    (sSeq (sSet 4 (eCall 1 f__law_lots (aCons (eVar 2) aNil)))
    (sSeq (sPar 5 6 (aCons (eCall 3 f__law_pick (aCons (eVar 0) (aCons (eVar 1) (aCons (eVar 4) aNil)))) (aCons (eCall 3 f__law_pick (aCons (eVar 0) (aCons (eVar 1) (aCons (eVar 4) aNil)))) aNil)))
    (sSeq (sSet 7 (eCall 3 f__law_pick (aCons (eVar 0) (aCons (eVar 1) (aCons (eFz (fDisp (aCons (eC (.str ">")) (aCons (eC (.str ">")) (aCons (eC (.str ">=")) (aCons (eC (.str "=")) aNil)))))) aNil)))))
    (sSeq (sIf (tE (eBin oGtI (eCall 3 f__law_draw (aCons (eVar 0) (aCons (eVar 1) (aCons (eC (.int 6)) aNil)))) (eC (.int 0)))) (sSeq (sSet 8 (eBin oSub (eCall 2 f__law_weight (aCons (eVar 3) (aCons (eVar 5) aNil))) (eCall 2 f__law_weight (aCons (eVar 3) (aCons (eVar 6) aNil)))))
    (sSeq (sAsg (eIf (tE (eBin oGeI (eVar 8) (eC (.int 0)))) (eTup (aCons (eVar 5) (aCons (eVar 6) aNil))) (eTup (aCons (eVar 6) (aCons (eVar 5) aNil)))) (gTp 2 (gsCons (gNm 5) (gsCons (gNm 6) gsNil))))
    (sSet 7 (eIf (tOrF (tAndF (tE (eBin oEq (eVar 8) (eC (.int 0)))) (tE (eBin oNe (eVar 7) (eC (.str ">"))))) (tAndF (tE (eBin oNe (eVar 8) (eC (.int 0)))) (tE (eBin oNe (eVar 7) (eC (.str "=")))))) (eVar 7) (eC (.str ">=")))))) sNil)
    (sRet (eTup (aCons (eVar 5) (aCons (eVar 7) (aCons (eVar 6) aNil)))))))))
def f__law_told : Fn := runF 6
    (sSeq (sSet 4 (eCall 3 f__law_scale (aCons (eVar 0) (aCons (eVar 1) (aCons (eVar 2) aNil)))))
    (sRet (eCB oTuple (aCons (eFz (fComp (iRange1 (aCons (eCall 3 f__law_draw (aCons (eVar 0) (aCons (eVar 1) (aCons (eBin oAdd (eVar 3) (eC (.int 1))) aNil)))) aNil)) (gNm 5) (fun _ st => .ok true st) (eCall 4 f__law_comparison (aCons (eVar 0) (aCons (eVar 1) (aCons (eVar 2) (aCons (eVar 4) aNil))))) [5])) aNil))))
def f__law_asks : Fn := runF 7
    (sSeq (sPar 1 2 (aCons (eFz (fComp (iVal (eCall 1 f__law_lots (aCons (eVar 0) aNil))) (gNm 4) (tE (eBin oNe (eVar 4) (eTup aNil))) (eVar 4) [4])) (aCons (eFz (fDisp aNil)) aNil)))
    (sSeq (sFor (iVal (eVar 1)) (gNm 3) (sSet 2 (eBin oAdd (eVar 2) (eFz (fComp (iVal (eVar 1)) (gNm 5) (tAndF (tE (eBin oLt (eVar 3) (eVar 5))) (tE (eBin oEq (eFz (fComp (iVal (eVar 3)) (gNm 6) (tE (eBin oIn (eVar 6) (eVar 5))) (eVar 6) [6])) (eFz (fDisp aNil))))) (eTup (aCons (eVar 3) (aCons (eVar 5) aNil))) [5])))))
    (sRet (eVar 2))))
def f_agreeing : Fn := runF 4
    (sRet (eCB oTuple (aCons (eFz (fComp (iVal (eCall 2 f_found_agreeing (aCons (eVar 0) (aCons (eVar 1) aNil)))) (gTp 2 (gsCons (gNm 2) (gsCons (gNm 3) gsNil))) (fun _ st => .ok true st) (eVar 2) [2, 3])) aNil)))
def f__law_sets : Fn := runF 7
    (sSeq (sSet 2 (eFz (fDisp (aCons (eTup aNil) aNil))))
    (sSeq (sFor (iRange1 (aCons (eVar 1) aNil)) (gNm 3) (sSeq (sSet 4 (eFz (fDisp aNil)))
    (sSeq (sFor (iVal (eVar 2)) (gNm 5) (sSet 4 (eBin oAdd (eVar 4) (eFz (fComp (iRange1 (aCons (eVar 0) aNil)) (gNm 6) (tOrF (tE (eBin oEq (eVar 5) (eTup aNil))) (tE (eBin oLt (eBin oIx (eVar 5) (eUn oNeg (eC (.int 1)))) (eVar 6)))) (eBin oAdd (eVar 5) (eTup (aCons (eVar 6) aNil))) [6])))))
    (sSet 2 (eVar 4)))))
    (sRet (eVar 2))))
def f__law_holds : Fn := runF 6
    (sSeq (sAsg (eVar 1) (gTp 3 (gsCons (gNm 2) (gsCons (gNm 3) (gsCons (gNm 4) gsNil)))))
    (sSeq (sSet 5 (eBin oSub (eCall 2 f__law_weight (aCons (eVar 0) (aCons (eVar 2) aNil))) (eCall 2 f__law_weight (aCons (eVar 0) (aCons (eVar 4) aNil)))))
    (sSeq (sIf (tE (eBin oEq (eVar 3) (eC (.str "=")))) (sRet (eBin oEq (eVar 5) (eC (.int 0)))) sNil)
    (sRet (eOr (eBin oGtI (eVar 5) (eC (.int 0))) (eAnd (eBin oEq (eVar 3) (eC (.str ">="))) (eBin oEq (eVar 5) (eC (.int 0)))))))))
def f__law_agree : Fn := runF 3
    (sRet (eBin oEq (eFz (fComp (iVal (eVar 0)) (gNm 2) (tNotF (tE (eCall 2 f__law_holds (aCons (eVar 1) (aCons (eVar 2) aNil))))) (eVar 2) [2])) (eFz (fDisp aNil))))
def f_orders : Fn := runF 3
    (sSeq (sDrop (eCall 1 f_check_things (aCons (eVar 0) aNil)))
    (sSeq (sIf (tE (eBin oGtI (eVar 0) (eC (.int 3)))) (sRaise "TooMany") sNil)
    (sRet (eCB oTuple (aCons (eFz (fComp (iItemsF (eFrzD (eCall 1 f_found_orders (aCons (eVar 0) aNil)))) (gTp 2 (gsCons (gNm 1) (gsCons (gNm 2) gsNil))) (fun _ st => .ok true st) (eTup (aCons (eVar 2) (aCons (eVar 1) aNil))) [1, 2])) aNil)))))
def f_parted : Fn := runF 5
    (sSeq (sSet 2 eDct)
    (sSeq (sFor (iVal (eVar 0)) (gNm 3) (sSeq (sSet 4 (eCall 2 f_answer_of (aCons (eVar 1) (aCons (eVar 3) aNil))))
    (sDput (eVar 2) (eVar 4) (eBin oAdd (eDget2 (eVar 2) (eVar 4) (eTup aNil)) (eTup (aCons (eVar 3) aNil))))))
    (sRet (eFz (fComp (iVal (eFz (fSortK (eVar 2)))) (gNm 4) (fun _ st => .ok true st) (eTup (aCons (eVar 4) (aCons (eDget (eVar 2) (eVar 4)) aNil))) [4])))))
def f_fewest_for_r0 : Fn := runF 8
    sBar
def f_fewest_for_r1 : Fn := runF 8
    (sSeq (sIf (tE (eBin oEq (eCB oLen (aCons (eVar 1) aNil)) (eC (.int 1)))) (sRet (eC (.int 0))) sNil)
    (sSeq (sIf (tE (eBin oNinN (eVar 1) (eVar 2))) (sSeq (sSet 3 (eOw (fDisp aNil)))
    (sSeq (sFor (iVal (eVar 0)) (gNm 4) (sSeq (sSet 5 (eCall 2 f_parted (aCons (eVar 1) (aCons (eVar 4) aNil))))
    (sIf (tE (eBin oGtI (eCB oLen (aCons (eVar 5) aNil)) (eC (.int 1)))) (sDrop (eLm goApp (eVar 3) (aCons (eBin oAdd (eC (.int 1)) (eCB oMax (aCons (eFz (fComp (iVal (eVar 5)) (gTp 2 (gsCons (gNm 6) (gsCons (gNm 7) gsNil))) (fun _ st => .ok true st) (eCall 3 f_fewest_for_r0 (aCons (eVar 0) (aCons (eVar 7) (aCons (eVar 2) aNil)))) [6, 7])) aNil))) aNil))) sNil)))
    (sAsg (eCB oMin (aCons (eFrz (eVar 3)) aNil)) (gSubN (eVar 2) (eVar 1))))) sNil)
    (sRet (eNget (eVar 2) (eVar 1)))))
def f_fewest_for_r2 : Fn := runF 8
    (sSeq (sIf (tE (eBin oEq (eCB oLen (aCons (eVar 1) aNil)) (eC (.int 1)))) (sRet (eC (.int 0))) sNil)
    (sSeq (sIf (tE (eBin oNinN (eVar 1) (eVar 2))) (sSeq (sSet 3 (eOw (fDisp aNil)))
    (sSeq (sFor (iVal (eVar 0)) (gNm 4) (sSeq (sSet 5 (eCall 2 f_parted (aCons (eVar 1) (aCons (eVar 4) aNil))))
    (sIf (tE (eBin oGtI (eCB oLen (aCons (eVar 5) aNil)) (eC (.int 1)))) (sDrop (eLm goApp (eVar 3) (aCons (eBin oAdd (eC (.int 1)) (eCB oMax (aCons (eFz (fComp (iVal (eVar 5)) (gTp 2 (gsCons (gNm 6) (gsCons (gNm 7) gsNil))) (fun _ st => .ok true st) (eCall 3 f_fewest_for_r1 (aCons (eVar 0) (aCons (eVar 7) (aCons (eVar 2) aNil)))) [6, 7])) aNil))) aNil))) sNil)))
    (sAsg (eCB oMin (aCons (eFrz (eVar 3)) aNil)) (gSubN (eVar 2) (eVar 1))))) sNil)
    (sRet (eNget (eVar 2) (eVar 1)))))
def f_fewest_for_r3 : Fn := runF 8
    (sSeq (sIf (tE (eBin oEq (eCB oLen (aCons (eVar 1) aNil)) (eC (.int 1)))) (sRet (eC (.int 0))) sNil)
    (sSeq (sIf (tE (eBin oNinN (eVar 1) (eVar 2))) (sSeq (sSet 3 (eOw (fDisp aNil)))
    (sSeq (sFor (iVal (eVar 0)) (gNm 4) (sSeq (sSet 5 (eCall 2 f_parted (aCons (eVar 1) (aCons (eVar 4) aNil))))
    (sIf (tE (eBin oGtI (eCB oLen (aCons (eVar 5) aNil)) (eC (.int 1)))) (sDrop (eLm goApp (eVar 3) (aCons (eBin oAdd (eC (.int 1)) (eCB oMax (aCons (eFz (fComp (iVal (eVar 5)) (gTp 2 (gsCons (gNm 6) (gsCons (gNm 7) gsNil))) (fun _ st => .ok true st) (eCall 3 f_fewest_for_r2 (aCons (eVar 0) (aCons (eVar 7) (aCons (eVar 2) aNil)))) [6, 7])) aNil))) aNil))) sNil)))
    (sAsg (eCB oMin (aCons (eFrz (eVar 3)) aNil)) (gSubN (eVar 2) (eVar 1))))) sNil)
    (sRet (eNget (eVar 2) (eVar 1)))))
def f_fewest_for_r4 : Fn := runF 8
    (sSeq (sIf (tE (eBin oEq (eCB oLen (aCons (eVar 1) aNil)) (eC (.int 1)))) (sRet (eC (.int 0))) sNil)
    (sSeq (sIf (tE (eBin oNinN (eVar 1) (eVar 2))) (sSeq (sSet 3 (eOw (fDisp aNil)))
    (sSeq (sFor (iVal (eVar 0)) (gNm 4) (sSeq (sSet 5 (eCall 2 f_parted (aCons (eVar 1) (aCons (eVar 4) aNil))))
    (sIf (tE (eBin oGtI (eCB oLen (aCons (eVar 5) aNil)) (eC (.int 1)))) (sDrop (eLm goApp (eVar 3) (aCons (eBin oAdd (eC (.int 1)) (eCB oMax (aCons (eFz (fComp (iVal (eVar 5)) (gTp 2 (gsCons (gNm 6) (gsCons (gNm 7) gsNil))) (fun _ st => .ok true st) (eCall 3 f_fewest_for_r3 (aCons (eVar 0) (aCons (eVar 7) (aCons (eVar 2) aNil)))) [6, 7])) aNil))) aNil))) sNil)))
    (sAsg (eCB oMin (aCons (eFrz (eVar 3)) aNil)) (gSubN (eVar 2) (eVar 1))))) sNil)
    (sRet (eNget (eVar 2) (eVar 1)))))
def f_fewest_for_r5 : Fn := runF 8
    (sSeq (sIf (tE (eBin oEq (eCB oLen (aCons (eVar 1) aNil)) (eC (.int 1)))) (sRet (eC (.int 0))) sNil)
    (sSeq (sIf (tE (eBin oNinN (eVar 1) (eVar 2))) (sSeq (sSet 3 (eOw (fDisp aNil)))
    (sSeq (sFor (iVal (eVar 0)) (gNm 4) (sSeq (sSet 5 (eCall 2 f_parted (aCons (eVar 1) (aCons (eVar 4) aNil))))
    (sIf (tE (eBin oGtI (eCB oLen (aCons (eVar 5) aNil)) (eC (.int 1)))) (sDrop (eLm goApp (eVar 3) (aCons (eBin oAdd (eC (.int 1)) (eCB oMax (aCons (eFz (fComp (iVal (eVar 5)) (gTp 2 (gsCons (gNm 6) (gsCons (gNm 7) gsNil))) (fun _ st => .ok true st) (eCall 3 f_fewest_for_r4 (aCons (eVar 0) (aCons (eVar 7) (aCons (eVar 2) aNil)))) [6, 7])) aNil))) aNil))) sNil)))
    (sAsg (eCB oMin (aCons (eFrz (eVar 3)) aNil)) (gSubN (eVar 2) (eVar 1))))) sNil)
    (sRet (eNget (eVar 2) (eVar 1)))))
def f_fewest_for_r6 : Fn := runF 8
    (sSeq (sIf (tE (eBin oEq (eCB oLen (aCons (eVar 1) aNil)) (eC (.int 1)))) (sRet (eC (.int 0))) sNil)
    (sSeq (sIf (tE (eBin oNinN (eVar 1) (eVar 2))) (sSeq (sSet 3 (eOw (fDisp aNil)))
    (sSeq (sFor (iVal (eVar 0)) (gNm 4) (sSeq (sSet 5 (eCall 2 f_parted (aCons (eVar 1) (aCons (eVar 4) aNil))))
    (sIf (tE (eBin oGtI (eCB oLen (aCons (eVar 5) aNil)) (eC (.int 1)))) (sDrop (eLm goApp (eVar 3) (aCons (eBin oAdd (eC (.int 1)) (eCB oMax (aCons (eFz (fComp (iVal (eVar 5)) (gTp 2 (gsCons (gNm 6) (gsCons (gNm 7) gsNil))) (fun _ st => .ok true st) (eCall 3 f_fewest_for_r5 (aCons (eVar 0) (aCons (eVar 7) (aCons (eVar 2) aNil)))) [6, 7])) aNil))) aNil))) sNil)))
    (sAsg (eCB oMin (aCons (eFrz (eVar 3)) aNil)) (gSubN (eVar 2) (eVar 1))))) sNil)
    (sRet (eNget (eVar 2) (eVar 1)))))
def f_fewest_for : Fn := runF 8
    (sSeq (sIf (tE (eBin oEq (eCB oLen (aCons (eVar 1) aNil)) (eC (.int 1)))) (sRet (eC (.int 0))) sNil)
    (sSeq (sIf (tE (eBin oNinN (eVar 1) (eVar 2))) (sSeq (sSet 3 (eOw (fDisp aNil)))
    (sSeq (sFor (iVal (eVar 0)) (gNm 4) (sSeq (sSet 5 (eCall 2 f_parted (aCons (eVar 1) (aCons (eVar 4) aNil))))
    (sIf (tE (eBin oGtI (eCB oLen (aCons (eVar 5) aNil)) (eC (.int 1)))) (sDrop (eLm goApp (eVar 3) (aCons (eBin oAdd (eC (.int 1)) (eCB oMax (aCons (eFz (fComp (iVal (eVar 5)) (gTp 2 (gsCons (gNm 6) (gsCons (gNm 7) gsNil))) (fun _ st => .ok true st) (eCall 3 f_fewest_for_r6 (aCons (eVar 0) (aCons (eVar 7) (aCons (eVar 2) aNil)))) [6, 7])) aNil))) aNil))) sNil)))
    (sAsg (eCB oMin (aCons (eFrz (eVar 3)) aNil)) (gSubN (eVar 2) (eVar 1))))) sNil)
    (sRet (eNget (eVar 2) (eVar 1)))))
def f_fewest_questions : Fn := runF 3
    (sSeq (sSet 2 (eCall 2 f_weights_left (aCons (eVar 0) (aCons (eVar 1) aNil))))
    (sRet (eCall 3 f_fewest_for (aCons (eCall 1 f_all_questions (aCons (eVar 0) aNil)) (aCons (eVar 2) (aCons eDcn aNil))))))
def f_plan_for_r0 : Fn := runF 8
    sBar
def f_plan_for_r1 : Fn := runF 8
    (sSeq (sSet 3 (eCall 3 f_fewest_for (aCons (eVar 0) (aCons (eVar 1) (aCons (eVar 2) aNil)))))
    (sSeq (sIf (tE (eBin oEq (eVar 3) (eC (.int 0)))) (sRet (eC .non)) sNil)
    (sSeq (sFor (iVal (eVar 0)) (gNm 4) (sSeq (sSet 5 (eCall 2 f_parted (aCons (eVar 1) (aCons (eVar 4) aNil))))
    (sIf (tAndF (tE (eBin oGtI (eCB oLen (aCons (eVar 5) aNil)) (eC (.int 1)))) (tE (eBin oEq (eBin oAdd (eC (.int 1)) (eCB oMax (aCons (eFz (fComp (iVal (eVar 5)) (gTp 2 (gsCons (gNm 6) (gsCons (gNm 7) gsNil))) (fun _ st => .ok true st) (eCall 3 f_fewest_for (aCons (eVar 0) (aCons (eVar 7) (aCons (eVar 2) aNil)))) [6, 7])) aNil))) (eVar 3)))) (sRet (eTup (aCons (eVar 4) (aCons (eCB oTuple (aCons (eFz (fComp (iVal (eVar 5)) (gTp 2 (gsCons (gNm 6) (gsCons (gNm 7) gsNil))) (fun _ st => .ok true st) (eTup (aCons (eVar 6) (aCons (eCall 3 f_plan_for_r0 (aCons (eVar 0) (aCons (eVar 7) (aCons (eVar 2) aNil)))) aNil))) [6, 7])) aNil)) aNil)))) sNil)))
    (sRet (eC .non)))))
def f_plan_for_r2 : Fn := runF 8
    (sSeq (sSet 3 (eCall 3 f_fewest_for (aCons (eVar 0) (aCons (eVar 1) (aCons (eVar 2) aNil)))))
    (sSeq (sIf (tE (eBin oEq (eVar 3) (eC (.int 0)))) (sRet (eC .non)) sNil)
    (sSeq (sFor (iVal (eVar 0)) (gNm 4) (sSeq (sSet 5 (eCall 2 f_parted (aCons (eVar 1) (aCons (eVar 4) aNil))))
    (sIf (tAndF (tE (eBin oGtI (eCB oLen (aCons (eVar 5) aNil)) (eC (.int 1)))) (tE (eBin oEq (eBin oAdd (eC (.int 1)) (eCB oMax (aCons (eFz (fComp (iVal (eVar 5)) (gTp 2 (gsCons (gNm 6) (gsCons (gNm 7) gsNil))) (fun _ st => .ok true st) (eCall 3 f_fewest_for (aCons (eVar 0) (aCons (eVar 7) (aCons (eVar 2) aNil)))) [6, 7])) aNil))) (eVar 3)))) (sRet (eTup (aCons (eVar 4) (aCons (eCB oTuple (aCons (eFz (fComp (iVal (eVar 5)) (gTp 2 (gsCons (gNm 6) (gsCons (gNm 7) gsNil))) (fun _ st => .ok true st) (eTup (aCons (eVar 6) (aCons (eCall 3 f_plan_for_r1 (aCons (eVar 0) (aCons (eVar 7) (aCons (eVar 2) aNil)))) aNil))) [6, 7])) aNil)) aNil)))) sNil)))
    (sRet (eC .non)))))
def f_plan_for_r3 : Fn := runF 8
    (sSeq (sSet 3 (eCall 3 f_fewest_for (aCons (eVar 0) (aCons (eVar 1) (aCons (eVar 2) aNil)))))
    (sSeq (sIf (tE (eBin oEq (eVar 3) (eC (.int 0)))) (sRet (eC .non)) sNil)
    (sSeq (sFor (iVal (eVar 0)) (gNm 4) (sSeq (sSet 5 (eCall 2 f_parted (aCons (eVar 1) (aCons (eVar 4) aNil))))
    (sIf (tAndF (tE (eBin oGtI (eCB oLen (aCons (eVar 5) aNil)) (eC (.int 1)))) (tE (eBin oEq (eBin oAdd (eC (.int 1)) (eCB oMax (aCons (eFz (fComp (iVal (eVar 5)) (gTp 2 (gsCons (gNm 6) (gsCons (gNm 7) gsNil))) (fun _ st => .ok true st) (eCall 3 f_fewest_for (aCons (eVar 0) (aCons (eVar 7) (aCons (eVar 2) aNil)))) [6, 7])) aNil))) (eVar 3)))) (sRet (eTup (aCons (eVar 4) (aCons (eCB oTuple (aCons (eFz (fComp (iVal (eVar 5)) (gTp 2 (gsCons (gNm 6) (gsCons (gNm 7) gsNil))) (fun _ st => .ok true st) (eTup (aCons (eVar 6) (aCons (eCall 3 f_plan_for_r2 (aCons (eVar 0) (aCons (eVar 7) (aCons (eVar 2) aNil)))) aNil))) [6, 7])) aNil)) aNil)))) sNil)))
    (sRet (eC .non)))))
def f_plan_for_r4 : Fn := runF 8
    (sSeq (sSet 3 (eCall 3 f_fewest_for (aCons (eVar 0) (aCons (eVar 1) (aCons (eVar 2) aNil)))))
    (sSeq (sIf (tE (eBin oEq (eVar 3) (eC (.int 0)))) (sRet (eC .non)) sNil)
    (sSeq (sFor (iVal (eVar 0)) (gNm 4) (sSeq (sSet 5 (eCall 2 f_parted (aCons (eVar 1) (aCons (eVar 4) aNil))))
    (sIf (tAndF (tE (eBin oGtI (eCB oLen (aCons (eVar 5) aNil)) (eC (.int 1)))) (tE (eBin oEq (eBin oAdd (eC (.int 1)) (eCB oMax (aCons (eFz (fComp (iVal (eVar 5)) (gTp 2 (gsCons (gNm 6) (gsCons (gNm 7) gsNil))) (fun _ st => .ok true st) (eCall 3 f_fewest_for (aCons (eVar 0) (aCons (eVar 7) (aCons (eVar 2) aNil)))) [6, 7])) aNil))) (eVar 3)))) (sRet (eTup (aCons (eVar 4) (aCons (eCB oTuple (aCons (eFz (fComp (iVal (eVar 5)) (gTp 2 (gsCons (gNm 6) (gsCons (gNm 7) gsNil))) (fun _ st => .ok true st) (eTup (aCons (eVar 6) (aCons (eCall 3 f_plan_for_r3 (aCons (eVar 0) (aCons (eVar 7) (aCons (eVar 2) aNil)))) aNil))) [6, 7])) aNil)) aNil)))) sNil)))
    (sRet (eC .non)))))
def f_plan_for_r5 : Fn := runF 8
    (sSeq (sSet 3 (eCall 3 f_fewest_for (aCons (eVar 0) (aCons (eVar 1) (aCons (eVar 2) aNil)))))
    (sSeq (sIf (tE (eBin oEq (eVar 3) (eC (.int 0)))) (sRet (eC .non)) sNil)
    (sSeq (sFor (iVal (eVar 0)) (gNm 4) (sSeq (sSet 5 (eCall 2 f_parted (aCons (eVar 1) (aCons (eVar 4) aNil))))
    (sIf (tAndF (tE (eBin oGtI (eCB oLen (aCons (eVar 5) aNil)) (eC (.int 1)))) (tE (eBin oEq (eBin oAdd (eC (.int 1)) (eCB oMax (aCons (eFz (fComp (iVal (eVar 5)) (gTp 2 (gsCons (gNm 6) (gsCons (gNm 7) gsNil))) (fun _ st => .ok true st) (eCall 3 f_fewest_for (aCons (eVar 0) (aCons (eVar 7) (aCons (eVar 2) aNil)))) [6, 7])) aNil))) (eVar 3)))) (sRet (eTup (aCons (eVar 4) (aCons (eCB oTuple (aCons (eFz (fComp (iVal (eVar 5)) (gTp 2 (gsCons (gNm 6) (gsCons (gNm 7) gsNil))) (fun _ st => .ok true st) (eTup (aCons (eVar 6) (aCons (eCall 3 f_plan_for_r4 (aCons (eVar 0) (aCons (eVar 7) (aCons (eVar 2) aNil)))) aNil))) [6, 7])) aNil)) aNil)))) sNil)))
    (sRet (eC .non)))))
def f_plan_for_r6 : Fn := runF 8
    (sSeq (sSet 3 (eCall 3 f_fewest_for (aCons (eVar 0) (aCons (eVar 1) (aCons (eVar 2) aNil)))))
    (sSeq (sIf (tE (eBin oEq (eVar 3) (eC (.int 0)))) (sRet (eC .non)) sNil)
    (sSeq (sFor (iVal (eVar 0)) (gNm 4) (sSeq (sSet 5 (eCall 2 f_parted (aCons (eVar 1) (aCons (eVar 4) aNil))))
    (sIf (tAndF (tE (eBin oGtI (eCB oLen (aCons (eVar 5) aNil)) (eC (.int 1)))) (tE (eBin oEq (eBin oAdd (eC (.int 1)) (eCB oMax (aCons (eFz (fComp (iVal (eVar 5)) (gTp 2 (gsCons (gNm 6) (gsCons (gNm 7) gsNil))) (fun _ st => .ok true st) (eCall 3 f_fewest_for (aCons (eVar 0) (aCons (eVar 7) (aCons (eVar 2) aNil)))) [6, 7])) aNil))) (eVar 3)))) (sRet (eTup (aCons (eVar 4) (aCons (eCB oTuple (aCons (eFz (fComp (iVal (eVar 5)) (gTp 2 (gsCons (gNm 6) (gsCons (gNm 7) gsNil))) (fun _ st => .ok true st) (eTup (aCons (eVar 6) (aCons (eCall 3 f_plan_for_r5 (aCons (eVar 0) (aCons (eVar 7) (aCons (eVar 2) aNil)))) aNil))) [6, 7])) aNil)) aNil)))) sNil)))
    (sRet (eC .non)))))
def f_plan_for : Fn := runF 8
    (sSeq (sSet 3 (eCall 3 f_fewest_for (aCons (eVar 0) (aCons (eVar 1) (aCons (eVar 2) aNil)))))
    (sSeq (sIf (tE (eBin oEq (eVar 3) (eC (.int 0)))) (sRet (eC .non)) sNil)
    (sSeq (sFor (iVal (eVar 0)) (gNm 4) (sSeq (sSet 5 (eCall 2 f_parted (aCons (eVar 1) (aCons (eVar 4) aNil))))
    (sIf (tAndF (tE (eBin oGtI (eCB oLen (aCons (eVar 5) aNil)) (eC (.int 1)))) (tE (eBin oEq (eBin oAdd (eC (.int 1)) (eCB oMax (aCons (eFz (fComp (iVal (eVar 5)) (gTp 2 (gsCons (gNm 6) (gsCons (gNm 7) gsNil))) (fun _ st => .ok true st) (eCall 3 f_fewest_for (aCons (eVar 0) (aCons (eVar 7) (aCons (eVar 2) aNil)))) [6, 7])) aNil))) (eVar 3)))) (sRet (eTup (aCons (eVar 4) (aCons (eCB oTuple (aCons (eFz (fComp (iVal (eVar 5)) (gTp 2 (gsCons (gNm 6) (gsCons (gNm 7) gsNil))) (fun _ st => .ok true st) (eTup (aCons (eVar 6) (aCons (eCall 3 f_plan_for_r6 (aCons (eVar 0) (aCons (eVar 7) (aCons (eVar 2) aNil)))) aNil))) [6, 7])) aNil)) aNil)))) sNil)))
    (sRet (eC .non)))))
def f_question_plan : Fn := runF 3
    (sSeq (sSet 2 (eCall 2 f_weights_left (aCons (eVar 0) (aCons (eVar 1) aNil))))
    (sRet (eCall 3 f_plan_for (aCons (eCall 1 f_all_questions (aCons (eVar 0) aNil)) (aCons (eVar 2) (aCons eDcn aNil))))))
def f__law_call : Fn := runF 3
    (sSeq (sSet 2 (eTup (aCons (eC (.glo "agreeing")) (aCons (eC (.glo "fewest_further")) (aCons (eC (.glo "fewest_questions")) (aCons (eC (.glo "question_plan")) aNil))))))
    (sRet (eCallV [("agreeing", f_agreeing), ("fewest_further", f_fewest_further), ("fewest_questions", f_fewest_questions), ("question_plan", f_question_plan)] 2 (eBin oIx (eVar 2) (eVar 0)) (aCons (eBin oIx (eVar 1) (eC (.int 0))) (aCons (eBin oIx (eVar 1) (eC (.int 1))) aNil)))))
def f__law_name : Fn := runF 2
    (sSeq (sIf (tNotF (tE (eIsE (excIs "ValueError") excs (eVar 0)))) (sRet (eUn oNeg (eC (.int 1)))) sNil)
    (sSeq (sSet 1 (eFz (fDisp (aCons (eIsE (excIs "InvalidThings") excs (eVar 0)) (aCons (eIsE (excIs "InvalidTold") excs (eVar 0)) aNil)))))
    (sSeq (sSet 1 (eBin oAdd (eVar 1) (eFz (fDisp (aCons (eIsE (excIs "InvalidWeights") excs (eVar 0)) (aCons (eIsE (excIs "InvalidLot") excs (eVar 0)) aNil))))))
    (sSeq (sSet 1 (eBin oAdd (eVar 1) (eFz (fDisp (aCons (eIsE (excIs "InvalidComparison") excs (eVar 0)) (aCons (eIsE (excIs "InvalidNumber") excs (eVar 0)) aNil))))))
    (sSeq (sSet 1 (eBin oAdd (eVar 1) (eFz (fDisp (aCons (eIsE (excIs "InvalidText") excs (eVar 0)) (aCons (eIsE (excIs "NotSure") excs (eVar 0)) aNil))))))
    (sSeq (sSet 1 (eBin oAdd (eVar 1) (eFz (fDisp (aCons (eIsE (excIs "NoneAgree") excs (eVar 0)) (aCons (eIsE (excIs "TooMany") excs (eVar 0)) aNil))))))
    (sSeq (sSet 1 (eBin oAdd (eVar 1) (eFz (fDisp (aCons (eIsE (excIs "NothingToUndo") excs (eVar 0)) aNil)))))
    (sRet (eIf (tE (eBin oEq (eLr goCount (eVar 1) (aCons (eC (.bl true)) aNil)) (eC (.int 1)))) (eLr goIndex (eVar 1) (aCons (eC (.bl true)) aNil)) (eUn oNeg (eC (.int 1))))))))))))
def f__law_outcome : Fn := runF 5
    (sSeq (sSet 2 (eC .non))
    (sSeq (sSet 3 (eC .non))
    (sSeq (sTryCall 4 2 3 2 excs f__law_call (aCons (eVar 0) (aCons (eVar 1) aNil)))
    (sSeq (sIf (tE (eBin oIsN (eVar 2) (eC .non))) (sRet (eTup (aCons (eC (.str "returned")) (aCons (eVar 3) aNil)))) sNil)
    (sRet (eTup (aCons (eC (.str "raised")) (aCons (eCall 1 f__law_name (aCons (eVar 2) aNil)) aNil))))))))
def f__law_raises : Fn := runF 2
    (sSeq (sSet 1 (eFz (fDisp (aCons (eC (.str "things")) (aCons (eC (.str "told")) (aCons (eC (.str "weights")) (aCons (eC (.str "lot")) (aCons (eC (.str "comparison")) (aCons (eC (.str "number")) aNil)))))))))
    (sSeq (sSet 1 (eBin oAdd (eVar 1) (eFz (fDisp (aCons (eC (.str "text")) (aCons (eC (.str "not_sure")) (aCons (eC (.str "none_agree")) (aCons (eC (.str "many")) (aCons (eC (.str "undo")) aNil)))))))))
    (sRet (eTup (aCons (eC (.str "raised")) (aCons (eLr goIndex (eVar 1) (aCons (eVar 0) aNil)) aNil))))))
def f__law_answer : Fn := runF 3
    (sSeq (sSet 2 (eBin oSub (eCall 2 f__law_weight (aCons (eVar 1) (aCons (eBin oIx (eVar 0) (eC (.int 0))) aNil))) (eCall 2 f__law_weight (aCons (eVar 1) (aCons (eBin oIx (eVar 0) (eC (.int 1))) aNil)))))
    (sRet (eIf (tE (eBin oGtI (eVar 2) (eC (.int 0)))) (eC (.str ">")) (eIf (tE (eBin oEq (eVar 2) (eC (.int 0)))) (eC (.str "=")) (eC (.str "<"))))))
def f_law : Fn := runF 18
    (sSeq (sSet 1 (eCall 1 f__law_town (aCons (eVar 0) aNil)))
    (sSeq (sSet 2 (eBin oAdd (eC (.int 1)) (eCall 3 f__law_draw (aCons (eVar 0) (aCons (eVar 1) (aCons (eC (.int 3)) aNil))))))
    (sSeq (sAsg (eTup (aCons (eCall 4 f__law_told (aCons (eVar 0) (aCons (eVar 1) (aCons (eVar 2) (aCons (eC (.int 4)) aNil))))) (aCons (eCall 1 f__law_asks (aCons (eVar 2) aNil)) aNil))) (gTp 2 (gsCons (gNm 3) (gsCons (gNm 4) gsNil))))
    (sSeq (sSet 5 (eFz (fComp (iVal (eCall 1 f_orders (aCons (eVar 2) aNil))) (gTp 2 (gsCons (gNm 13) (gsCons (gNm 14) gsNil))) (tE (eCall 2 f__law_agree (aCons (eVar 3) (aCons (eVar 13) aNil)))) (eTup (aCons (eVar 13) (aCons (eVar 14) aNil))) [13, 14])))
    (sSeq (sIf (tE (eBin oNe (eCall 2 f_agreeing (aCons (eVar 2) (aCons (eVar 3) aNil))) (eCB oTuple (aCons (eFz (fComp (iVal (eVar 5)) (gTp 2 (gsCons (gNm 13) (gsCons (gNm 14) gsNil))) (fun _ st => .ok true st) (eVar 14) [13, 14])) aNil)))) (sRet (eC (.bl false))) sNil)
    (sSeq (sIf (tE (eBin oEq (eVar 5) (eFz (fDisp aNil)))) (sRet (eBin oEq (eFz (fComp (iVal (eTup (aCons (eC (.int 1)) (aCons (eC (.int 2)) (aCons (eC (.int 3)) aNil))))) (gNm 15) (tE (eBin oNe (eCall 2 f__law_outcome (aCons (eVar 15) (aCons (eTup (aCons (eVar 2) (aCons (eVar 3) aNil))) aNil))) (eCall 1 f__law_raises (aCons (eC (.str "none_agree")) aNil)))) (eVar 15) [15])) (eFz (fDisp aNil)))) sNil)
    (sSeq (sSet 6 (eC .non))
    (sSeq (sFor (iRange1 (aCons (eBin oAdd (eCB oLen (aCons (eVar 4) aNil)) (eC (.int 1))) aNil)) (gNm 7) (sFor (iVal (eCall 2 f__law_sets (aCons (eCB oLen (aCons (eVar 4) aNil)) (aCons (eVar 7) aNil)))) (gNm 8) (sSeq (sSet 9 (eFz (fComp (iVal (eVar 5)) (gTp 2 (gsCons (gNm 13) (gsCons (gNm 14) gsNil))) (fun _ st => .ok true st) (eCB oTuple (aCons (eFz (fComp (iVal (eVar 8)) (gNm 16) (fun _ st => .ok true st) (eCall 2 f__law_answer (aCons (eBin oIx (eVar 4) (eVar 16)) (aCons (eVar 13) aNil))) [16])) aNil)) [13, 14])))
    (sIf (tAndF (tE (eBin oIsN (eVar 6) (eC .non))) (tE (eBin oEq (eLenSetT (eVar 9)) (eCB oLen (aCons (eVar 9) aNil))))) (sSet 6 (eCB oTuple (aCons (eFz (fComp (iVal (eVar 8)) (gNm 16) (fun _ st => .ok true st) (eBin oIx (eVar 4) (eVar 16)) [16])) aNil))) sNil))))
    (sSeq (sSet 10 (eCall 2 f_fewest_further (aCons (eVar 2) (aCons (eVar 3) aNil))))
    (sSeq (sIf (tOrF (tE (eBin oNe (eVar 10) (eVar 6))) (tOrF (tE (eBin oNe (eBin oEq (eVar 10) (eTup aNil)) (eBin oEq (eCB oLen (aCons (eVar 5) aNil)) (eC (.int 1))))) (tE (eBin oGtI (eCall 2 f_fewest_questions (aCons (eVar 2) (aCons (eVar 3) aNil))) (eCB oLen (aCons (eVar 10) aNil)))))) (sRet (eC (.bl false))) sNil)
    (sSeq (sSet 11 (eBin oAdd (eVar 3) (eTup (aCons (eCall 4 f__law_comparison (aCons (eVar 0) (aCons (eVar 1) (aCons (eVar 2) (aCons (eBin oIx (eBin oIx (eVar 5) (eC (.int 0))) (eC (.int 0))) aNil))))) aNil))))
    (sSeq (sIf (tAndF (tE (eCall 2 f__law_agree (aCons (eVar 11) (aCons (eBin oIx (eBin oIx (eVar 5) (eC (.int 0))) (eC (.int 0))) aNil)))) (tE (eBin oGtI (eCB oLen (aCons (eCall 2 f_fewest_further (aCons (eVar 2) (aCons (eVar 11) aNil))) aNil)) (eCB oLen (aCons (eVar 10) aNil))))) (sRet (eC (.bl false))) sNil)
    (sSeq (sIf (tE (eBin oNe (eFz (fComp (iRange1 (aCons (eC (.int 4)) aNil)) (gNm 15) (tE (eBin oNe (eCall 2 f__law_outcome (aCons (eVar 15) (aCons (eTup (aCons (eC (.int 4)) (aCons (eTup aNil) aNil))) aNil))) (eCall 1 f__law_raises (aCons (eC (.str "many")) aNil)))) (eVar 15) [15])) (eFz (fDisp aNil)))) (sRet (eC (.bl false))) sNil)
    (sSeq (sSet 12 (eFz (fDisp (aCons (eC .non) (aCons (eTup (aCons (eTup (aCons (eC (.int 0)) aNil)) aNil)) (aCons (eFz (fDisp (aCons (eTup (aCons (eTup (aCons (eC (.int 0)) aNil)) (aCons (eC (.str ">")) (aCons (eTup aNil) aNil)))) aNil))) (aCons (eTup (aCons (eTup (aCons (eTup (aCons (eC (.int 5)) aNil)) (aCons (eC (.str ">")) (aCons (eTup aNil) aNil)))) aNil)) (aCons (eTup (aCons (eTup (aCons (eTup (aCons (eC (.int 0)) aNil)) (aCons (eC (.str "<")) (aCons (eTup aNil) aNil)))) aNil)) aNil))))))))
    (sRet (eBin oEq (eFz (fComp (iVal (eVar 12)) (gNm 17) (tE (eBin oNe (eCall 2 f__law_outcome (aCons (eC (.int 1)) (aCons (eTup (aCons (eVar 2) (aCons (eVar 17) aNil))) aNil))) (eCall 1 f__law_raises (aCons (eC (.str "told")) aNil)))) (eVar 17) [17])) (eFz (fDisp aNil))))))))))))))))))
def d0 : He.DefD := ⟨("_law_town", none), "_law_town", "_law_town", defArgs (top 46), defBody (top 46), defScope (top 46), [], []⟩
def d1 : He.DefD := ⟨("is_between", none), "is_between", "is_between", defArgs (top 14), defBody (top 14), defScope (top 14), [], []⟩
def d2 : He.DefD := ⟨("check_things", none), "check_things", "check_things", defArgs (top 20), defBody (top 20), defScope (top 20), [], []⟩
def d3 : He.DefD := ⟨("is_found_lot", none), "is_found_lot", "is_found_lot", defArgs (top 17), defBody (top 17), defScope (top 17), [], []⟩
def d4 : He.DefD := ⟨("is_comparison", none), "is_comparison", "is_comparison", defArgs (top 18), defBody (top 18), defScope (top 18), [], []⟩
def d5 : He.DefD := ⟨("are_told", none), "are_told", "are_told", defArgs (top 19), defBody (top 19), defScope (top 19), [], []⟩
def d6 : He.DefD := ⟨("check_told", none), "check_told", "check_told", defArgs (top 21), defBody (top 21), defScope (top 21), [], []⟩
def d7 : He.DefD := ⟨("found_weight", none), "found_weight", "found_weight", defArgs (top 22), defBody (top 22), defScope (top 22), [], []⟩
def d8 : He.DefD := ⟨("does_hold", none), "does_hold", "does_hold", defArgs (top 23), defBody (top 23), defScope (top 23), [], []⟩
def d9 : He.DefD := ⟨("do_agree", none), "do_agree", "do_agree", defArgs (top 24), defBody (top 24), defScope (top 24), [], []⟩
def d10 : He.DefD := ⟨("small_weights", none), "small_weights", "small_weights", defArgs (top 28), defBody (top 28), defScope (top 28), [], []⟩
def d11 : He.DefD := ⟨("all_lots", none), "all_lots", "all_lots", defArgs (top 26), defBody (top 26), defScope (top 26), [], []⟩
def d12 : He.DefD := ⟨("found_order", none), "found_order", "found_order", defArgs (top 27), defBody (top 27), defScope (top 27), [], []⟩
def d13 : He.DefD := ⟨("found_orders", none), "found_orders", "found_orders", defArgs (top 29), defBody (top 29), defScope (top 29), [], []⟩
def d14 : He.DefD := ⟨("found_agreeing", none), "found_agreeing", "found_agreeing", defArgs (top 34), defBody (top 34), defScope (top 34), [], []⟩
def d15 : He.DefD := ⟨("weights_left", none), "weights_left", "weights_left", defArgs (top 36), defBody (top 36), defScope (top 36), [], []⟩
def d16 : He.DefD := ⟨("all_questions", none), "all_questions", "all_questions", defArgs (top 37), defBody (top 37), defScope (top 37), [], []⟩
def d17 : He.DefD := ⟨("some_numbers", none), "some_numbers", "some_numbers", defArgs (top 32), defBody (top 32), defScope (top 32), [], []⟩
def d18 : He.DefD := ⟨("answer_of", none), "answer_of", "answer_of", defArgs (top 38), defBody (top 38), defScope (top 38), [], []⟩
def d19 : He.DefD := ⟨("fewest_further", none), "fewest_further", "fewest_further", defArgs (top 39), defBody (top 39), defScope (top 39), [], []⟩
def d20 : He.DefD := ⟨("_law_draw", none), "_law_draw", "_law_draw", defArgs (top 47), defBody (top 47), defScope (top 47), [], []⟩
def d21 : He.DefD := ⟨("_law_pick", none), "_law_pick", "_law_pick", defArgs (top 48), defBody (top 48), defScope (top 48), [], []⟩
def d22 : He.DefD := ⟨("_law_scale", none), "_law_scale", "_law_scale", defArgs (top 57), defBody (top 57), defScope (top 57), [], []⟩
def d23 : He.DefD := ⟨("_law_lots", none), "_law_lots", "_law_lots", defArgs (top 52), defBody (top 52), defScope (top 52), [], []⟩
def d24 : He.DefD := ⟨("_law_weight", none), "_law_weight", "_law_weight", defArgs (top 53), defBody (top 53), defScope (top 53), [], []⟩
def d25 : He.DefD := ⟨("_law_comparison", none), "_law_comparison", "_law_comparison", defArgs (top 56), defBody (top 56), defScope (top 56), [], []⟩
def d26 : He.DefD := ⟨("_law_told", none), "_law_told", "_law_told", defArgs (top 58), defBody (top 58), defScope (top 58), [], []⟩
def d27 : He.DefD := ⟨("_law_asks", none), "_law_asks", "_law_asks", defArgs (top 60), defBody (top 60), defScope (top 60), [], []⟩
def d28 : He.DefD := ⟨("agreeing", none), "agreeing", "agreeing", defArgs (top 35), defBody (top 35), defScope (top 35), [], []⟩
def d29 : He.DefD := ⟨("_law_sets", none), "_law_sets", "_law_sets", defArgs (top 62), defBody (top 62), defScope (top 62), [], []⟩
def d30 : He.DefD := ⟨("_law_holds", none), "_law_holds", "_law_holds", defArgs (top 54), defBody (top 54), defScope (top 54), [], []⟩
def d31 : He.DefD := ⟨("_law_agree", none), "_law_agree", "_law_agree", defArgs (top 55), defBody (top 55), defScope (top 55), [], []⟩
def d32 : He.DefD := ⟨("orders", none), "orders", "orders", defArgs (top 30), defBody (top 30), defScope (top 30), [], []⟩
def d33 : He.DefD := ⟨("parted", none), "parted", "parted", defArgs (top 40), defBody (top 40), defScope (top 40), [], []⟩
def d34 : He.DefD := ⟨("fewest_for", none), "fewest_for", "fewest_for", defArgs (top 41), defBody (top 41), defScope (top 41), [], []⟩
def d35 : He.DefD := ⟨("fewest_questions", none), "fewest_questions", "fewest_questions", defArgs (top 42), defBody (top 42), defScope (top 42), [], []⟩
def d36 : He.DefD := ⟨("plan_for", none), "plan_for", "plan_for", defArgs (top 43), defBody (top 43), defScope (top 43), [], []⟩
def d37 : He.DefD := ⟨("question_plan", none), "question_plan", "question_plan", defArgs (top 44), defBody (top 44), defScope (top 44), [], []⟩
def d38 : He.DefD := ⟨("_law_call", none), "_law_call", "_law_call", defArgs (top 59), defBody (top 59), defScope (top 59), [], []⟩
def d39 : He.DefD := ⟨("_law_name", none), "_law_name", "_law_name", defArgs (top 50), defBody (top 50), defScope (top 50), [], []⟩
def d40 : He.DefD := ⟨("_law_outcome", none), "_law_outcome", "_law_outcome", defArgs (top 49), defBody (top 49), defScope (top 49), [], []⟩
def d41 : He.DefD := ⟨("_law_raises", none), "_law_raises", "_law_raises", defArgs (top 51), defBody (top 51), defScope (top 51), [], []⟩
def d42 : He.DefD := ⟨("_law_answer", none), "_law_answer", "_law_answer", defArgs (top 61), defBody (top 61), defScope (top 61), [], []⟩
def d43 : He.DefD := ⟨("law", none), "law", "law", defArgs (top 63), defBody (top 63), defScope (top 63), [], []⟩
def fn : List He.DefD := ([d0, d1, d2, d3, d4, d5, d6, d7, d8, d9, d10, d11, d12, d13, d14, d15, d16, d17, d18, d19, d20, d21, d22, d23, d24, d25, d26, d27, d28, d29] : List He.DefD) ++ ([d30, d31, d32, d33, d34, d35, d36, d37, d38, d39, d40, d41, d42, d43] : List He.DefD)
def fa : List He.Fa := ([.glo "_law_town", .glo "is_between", .glo "check_things", .glo "is_found_lot", .glo "is_comparison", .glo "are_told", .glo "check_told", .glo "found_weight", .glo "does_hold", .glo "do_agree", .glo "small_weights", .glo "all_lots", .glo "found_order", .glo "found_orders", .glo "found_agreeing", .glo "weights_left", .glo "all_questions", .glo "some_numbers", .glo "answer_of", .glo "fewest_further", .glo "_law_draw", .glo "_law_pick", .glo "_law_scale", .glo "_law_lots", .glo "_law_weight", .glo "_law_comparison", .glo "_law_told", .glo "_law_asks", .glo "agreeing", .glo "_law_sets"] : List He.Fa) ++ ([.glo "_law_holds", .glo "_law_agree", .glo "orders", .glo "parted", .glo "fewest_for", .glo "fewest_questions", .glo "plan_for", .glo "question_plan", .glo "_law_call", .glo "_law_name", .glo "ScaleError", .glo "_law_outcome", .glo "_law_raises", .glo "_law_answer", .glo "law"] : List He.Fa)
def qs : Ask := ⟨(["ValueError", "all", "any", "bool", "int", "isinstance", "len", "list", "max", "min", "range", "set", "sorted", "str", "sum", "tuple"] : List Str), excs, [], true⟩
def loose : List Str := (["ScaleError", "InvalidThings", "InvalidTold", "InvalidWeights", "InvalidLot", "InvalidComparison", "InvalidNumber", "InvalidText", "NotSure", "NoneAgree", "TooMany", "NothingToUndo", "is_between", "SIGNS", "is_found_lot", "is_comparison", "are_told", "check_things", "check_told", "found_weight", "does_hold", "do_agree", "all_lots", "found_order", "small_weights", "found_orders", "orders", "some_numbers", "found_agreeing", "agreeing"] : List Str) ++ (["weights_left", "all_questions", "answer_of", "fewest_further", "parted", "fewest_for", "fewest_questions", "plan_for", "question_plan", "_law_town", "_law_draw", "_law_pick", "_law_outcome", "_law_name", "_law_raises", "_law_lots", "_law_weight", "_law_holds", "_law_agree", "_law_comparison", "_law_scale", "_law_told", "_law_call", "_law_asks", "_law_answer", "_law_sets"] : List Str)
end Gk40
end
section
set_option Elab.async false
set_option linter.all false
set_option maxRecDepth 100000
set_option maxHeartbeats 0
namespace Gk40
open PySem PySem.Spec PyProof.Rows L2 Lq
section
variable {P : Program} {w : World} {K : PySem.W.Frag} {mg : Str → Option Value} {base : Heap}
theorem fr_ValueError (G : Fx fa fn qs K mg) : mg "ValueError" = none := G.fr "ValueError" (by decide)
theorem fr_all (G : Fx fa fn qs K mg) : mg "all" = none := G.fr "all" (by decide)
theorem fr_any (G : Fx fa fn qs K mg) : mg "any" = none := G.fr "any" (by decide)
theorem fr_bool (G : Fx fa fn qs K mg) : mg "bool" = none := G.fr "bool" (by decide)
theorem fr_int (G : Fx fa fn qs K mg) : mg "int" = none := G.fr "int" (by decide)
theorem fr_isinstance (G : Fx fa fn qs K mg) : mg "isinstance" = none := G.fr "isinstance" (by decide)
theorem fr_len (G : Fx fa fn qs K mg) : mg "len" = none := G.fr "len" (by decide)
theorem fr_list (G : Fx fa fn qs K mg) : mg "list" = none := G.fr "list" (by decide)
theorem fr_max (G : Fx fa fn qs K mg) : mg "max" = none := G.fr "max" (by decide)
theorem fr_min (G : Fx fa fn qs K mg) : mg "min" = none := G.fr "min" (by decide)
theorem fr_range (G : Fx fa fn qs K mg) : mg "range" = none := G.fr "range" (by decide)
theorem fr_set (G : Fx fa fn qs K mg) : mg "set" = none := G.fr "set" (by decide)
theorem fr_sorted (G : Fx fa fn qs K mg) : mg "sorted" = none := G.fr "sorted" (by decide)
theorem fr_str (G : Fx fa fn qs K mg) : mg "str" = none := G.fr "str" (by decide)
theorem fr_sum (G : Fx fa fn qs K mg) : mg "sum" = none := G.fr "sum" (by decide)
theorem fr_tuple (G : Fx fa fn qs K mg) : mg "tuple" = none := G.fr "tuple" (by decide)
theorem sc__law_town : FnScope ["script"] ["script"] (defScope (top 46)) := ⟨rfl, rfl, rfl, by decide +kernel, rfl, by decide +kernel, by decide +kernel⟩
theorem ok__law_town (G : Fx fa fn qs K mg) : Cl P w K mg base 1 "_law_town" 1 f__law_town := by
  obtain ⟨fd, F⟩ := G.def_ 0 (d := d0) rfl rfl rfl
  refine cl_of F (G.glo 0 rfl) (F.bindsN fun _ _ _ _ _ _ us hl => match us, hl with | [_], _ => rfl) (fn_body (N := ["script"]) (ps := ["script"]) F sc__law_town fun cdv A outer s H E hr => ?_)
  have nd := sc__law_town.nd
  exact (jss_one (js_ret (je_ow (jf_add (je_fz (jf_lst (ja_cons je_int ja_nil))) (je_fz (jf_list (je_var 0) (fr_list G)))))))
theorem sc_is_between : FnScope ["value", "low", "high"] ["value", "low", "high"] (defScope (top 14)) := ⟨rfl, rfl, rfl, by decide +kernel, rfl, by decide +kernel, by decide +kernel⟩
theorem ok_is_between (G : Fx fa fn qs K mg) : Cl P w K mg base 1 "is_between" 3 f_is_between := by
  obtain ⟨fd, F⟩ := G.def_ 1 (d := d1) rfl rfl rfl
  refine cl_of F (G.glo 1 rfl) (F.bindsN fun _ _ _ _ _ _ us hl => match us, hl with | [_, _, _], _ => rfl) (fn_body (N := ["value", "low", "high"]) (ps := ["value", "low", "high"]) F sc_is_between fun cdv A outer s H E hr => ?_)
  have nd := sc_is_between.nd
  exact (jss_one (js_ret (je_and (je_isi .int (je_var 0) (fr_isinstance G) (fr_int G) (by decide +kernel)) (je_and (je_not (je_isi .bl (je_var 0) (fr_isinstance G) (fr_bool G) (by decide +kernel))) (je_one (je_chain jo_leI jo_leI (je_var 1) (je_var 0) (je_var 2)))))))
theorem sc_check_things : FnScope ["value"] ["value"] (defScope (top 20)) := ⟨rfl, rfl, rfl, by decide +kernel, rfl, by decide +kernel, by decide +kernel⟩
theorem ok_check_things (G : Fx fa fn qs K mg) : Cl P w K mg base 2 "check_things" 1 f_check_things := by
  obtain ⟨fd, F⟩ := G.def_ 2 (d := d2) rfl rfl rfl
  refine cl_of F (G.glo 2 rfl) (F.bindsN fun _ _ _ _ _ _ us hl => match us, hl with | [_], _ => rfl) (fn_body (N := ["value"]) (ps := ["value"]) F sc_check_things fun cdv A outer s H E hr => ?_)
  have nd := sc_check_things.nd
  exact (jss_one (js_if (jt_not (jt_val (je_call (ok_is_between G) hr ctx_px (ja_cons (je_var 0) (ja_cons je_int (ja_cons je_int ja_nil)))))) (jss_one (js_raise rfl ctx_tk (G.exc "InvalidThings" (by decide)))) jss_nil))
theorem sc_is_found_lot : FnScope ["things", "value", "one", "k"] ["things", "value"] (defScope (top 17)) := ⟨rfl, rfl, rfl, by decide +kernel, rfl, by decide +kernel, by decide +kernel⟩
theorem ok_is_found_lot (G : Fx fa fn qs K mg) : Cl P w K mg base 2 "is_found_lot" 2 f_is_found_lot := by
  obtain ⟨fd, F⟩ := G.def_ 3 (d := d3) rfl rfl rfl
  refine cl_of F (G.glo 3 rfl) (F.bindsN fun _ _ _ _ _ _ us hl => match us, hl with | [_, _], _ => rfl) (fn_body (N := ["things", "value", "one", "k"]) (ps := ["things", "value"]) F sc_is_found_lot fun cdv A outer s H E hr => ?_)
  have nd := sc_is_found_lot.nd
  exact (jss_cons (js_if (JW.jt (jw_or (jt_not (jt_val (je_isi .tup (je_var 1) (fr_isinstance G) (fr_tuple G) (by decide +kernel)))) (jw_or1 (jt_not (jt_val (je_callB (jc_all rfl) (ja_cons (je_fz (jf_lc (own := [("one", 2)]) rfl nd (blkOk_by (by kernel_rfl)) (ji_seq (je_var 1)) (fun _ _ _ _ _ => (jg_name (i := 2) nd)) (fun _ _ _ _ _ => jts_nil) (fun _ _ _ _ _ => (je_call (ok_is_between G) hr passL (ja_cons (je_var 2) (ja_cons je_int (ja_cons (je_bin jo_sub (je_var 0) je_int) ja_nil))))))) ja_nil) (fr_all G) (by decide +kernel))))))) (jss_one (js_ret je_bl)) jss_nil)
    (jss_one (js_ret (je_callB (jc_all rfl) (ja_cons (je_fz (jf_lc (own := [("k", 3)]) rfl nd (blkOk_by (by kernel_rfl)) (ji_range1 (ja_cons (je_bin jo_sub (je_callB jc_len (ja_cons (je_var 1) ja_nil) (fr_len G) PySem.boot_len) je_int) ja_nil) (fr_range G)) (fun _ _ _ _ _ => (jg_name (i := 3) nd)) (fun _ _ _ _ _ => jts_nil) (fun _ _ _ _ _ => (je_cmp (jo_lt hr.units0) (je_ix jx_ix (je_var 1) (je_var 3)) (je_ix jx_ix (je_var 1) (je_bin jo_add (je_var 3) je_int)))))) ja_nil) (fr_all G) (by decide +kernel)))))
theorem sc_is_comparison : FnScope ["things", "value"] ["things", "value"] (defScope (top 18)) := ⟨rfl, rfl, rfl, by decide +kernel, rfl, by decide +kernel, by decide +kernel⟩
theorem ok_is_comparison (G : Fx fa fn qs K mg) : Cl P w K mg base 3 "is_comparison" 2 f_is_comparison := by
  obtain ⟨fd, F⟩ := G.def_ 4 (d := d4) rfl rfl rfl
  refine cl_of F (G.glo 4 rfl) (F.bindsN fun _ _ _ _ _ _ us hl => match us, hl with | [_, _], _ => rfl) (fn_body (N := ["things", "value"]) (ps := ["things", "value"]) F sc_is_comparison fun cdv A outer s H E hr => ?_)
  have nd := sc_is_comparison.nd
  exact (jss_cons (js_if (JW.jt (jw_or (jt_not (jt_val (je_isi .tup (je_var 1) (fr_isinstance G) (fr_tuple G) (by decide +kernel)))) (jw_or (jt_cmp (jo_ne hr.units) (je_callB jc_len (ja_cons (je_var 1) ja_nil) (fr_len G) PySem.boot_len) je_int) (jw_or (jt_not (jt_val (je_isi .str (je_ix jx_ix (je_var 1) je_int) (fr_isinstance G) (fr_str G) (by decide +kernel)))) (jw_or1 (jt_cmp (jo_nin (u65 hr)) (je_ix jx_ix (je_var 1) je_int) (G.signs rfl))))))) (jss_one (js_ret je_bl)) jss_nil)
    (jss_one (js_ret (je_and (je_call (ok_is_found_lot G) hr ctx_px (ja_cons (je_var 0) (ja_cons (je_ix jx_ix (je_var 1) je_int) ja_nil))) (je_one (je_call (ok_is_found_lot G) hr ctx_px (ja_cons (je_var 0) (ja_cons (je_ix jx_ix (je_var 1) je_int) ja_nil))))))))
theorem sc_are_told : FnScope ["things", "value", "one"] ["things", "value"] (defScope (top 19)) := ⟨rfl, rfl, rfl, by decide +kernel, rfl, by decide +kernel, by decide +kernel⟩
theorem ok_are_told (G : Fx fa fn qs K mg) : Cl P w K mg base 4 "are_told" 2 f_are_told := by
  obtain ⟨fd, F⟩ := G.def_ 5 (d := d5) rfl rfl rfl
  refine cl_of F (G.glo 5 rfl) (F.bindsN fun _ _ _ _ _ _ us hl => match us, hl with | [_, _], _ => rfl) (fn_body (N := ["things", "value", "one"]) (ps := ["things", "value"]) F sc_are_told fun cdv A outer s H E hr => ?_)
  have nd := sc_are_told.nd
  exact (jss_one (js_ret (je_and (je_isi .tup (je_var 1) (fr_isinstance G) (fr_tuple G) (by decide +kernel)) (je_and (je_cmp jo_leI (je_callB jc_len (ja_cons (je_var 1) ja_nil) (fr_len G) PySem.boot_len) je_int) (je_one (je_callB (jc_all rfl) (ja_cons (je_fz (jf_lc (own := [("one", 2)]) rfl nd (blkOk_by (by kernel_rfl)) (ji_seq (je_var 1)) (fun _ _ _ _ _ => (jg_name (i := 2) nd)) (fun _ _ _ _ _ => jts_nil) (fun _ _ _ _ _ => (je_call (ok_is_comparison G) hr passL (ja_cons (je_var 0) (ja_cons (je_var 2) ja_nil)))))) ja_nil) (fr_all G) (by decide +kernel)))))))
theorem sc_check_told : FnScope ["things", "told"] ["things", "told"] (defScope (top 21)) := ⟨rfl, rfl, rfl, by decide +kernel, rfl, by decide +kernel, by decide +kernel⟩
theorem ok_check_told (G : Fx fa fn qs K mg) : Cl P w K mg base 5 "check_told" 2 f_check_told := by
  obtain ⟨fd, F⟩ := G.def_ 6 (d := d6) rfl rfl rfl
  refine cl_of F (G.glo 6 rfl) (F.bindsN fun _ _ _ _ _ _ us hl => match us, hl with | [_, _], _ => rfl) (fn_body (N := ["things", "told"]) (ps := ["things", "told"]) F sc_check_told fun cdv A outer s H E hr => ?_)
  have nd := sc_check_told.nd
  exact (jss_cons (js_expr (je_call (ok_check_things G) hr ctx_px (ja_cons (je_var 0) ja_nil)))
    (jss_one (js_if (jt_not (jt_val (je_call (ok_are_told G) hr ctx_px (ja_cons (je_var 0) (ja_cons (je_var 1) ja_nil))))) (jss_one (js_raise rfl ctx_tk (G.exc "InvalidTold" (by decide)))) jss_nil)))
theorem sc_found_weight : FnScope ["weights", "lot", "thing"] ["weights", "lot"] (defScope (top 22)) := ⟨rfl, rfl, rfl, by decide +kernel, rfl, by decide +kernel, by decide +kernel⟩
theorem ok_found_weight (G : Fx fa fn qs K mg) : Cl P w K mg base 1 "found_weight" 2 f_found_weight := by
  obtain ⟨fd, F⟩ := G.def_ 7 (d := d7) rfl rfl rfl
  refine cl_of F (G.glo 7 rfl) (F.bindsN fun _ _ _ _ _ _ us hl => match us, hl with | [_, _], _ => rfl) (fn_body (N := ["weights", "lot", "thing"]) (ps := ["weights", "lot"]) F sc_found_weight fun cdv A outer s H E hr => ?_)
  have nd := sc_found_weight.nd
  exact (jss_one (js_ret (je_callB (jc_sum rfl) (ja_cons (je_fz (jf_lc (own := [("thing", 2)]) rfl nd (blkOk_by (by kernel_rfl)) (ji_seq (je_var 1)) (fun _ _ _ _ _ => (jg_name (i := 2) nd)) (fun _ _ _ _ _ => jts_nil) (fun _ _ _ _ _ => (je_ix jx_ix (je_var 0) (je_var 2))))) ja_nil) (fr_sum G) (by decide +kernel))))
theorem sc_does_hold : FnScope ["weights", "comparison", "one", "sign", "other", "more"] ["weights", "comparison"] (defScope (top 23)) := ⟨rfl, rfl, rfl, by decide +kernel, rfl, by decide +kernel, by decide +kernel⟩
theorem ok_does_hold (G : Fx fa fn qs K mg) : Cl P w K mg base 2 "does_hold" 2 f_does_hold := by
  obtain ⟨fd, F⟩ := G.def_ 8 (d := d8) rfl rfl rfl
  refine cl_of F (G.glo 8 rfl) (F.bindsN fun _ _ _ _ _ _ us hl => match us, hl with | [_, _], _ => rfl) (fn_body (N := ["weights", "comparison", "one", "sign", "other", "more"]) (ps := ["weights", "comparison"]) F sc_does_hold fun cdv A outer s H E hr => ?_)
  have nd := sc_does_hold.nd
  exact (jss_cons (js_asg (vs := [2, 3, 4]) (je_var 1) (jg_tup rfl (jgs_cons (jg_name (i := 2) nd) (jgs_cons (jg_name (i := 3) nd) (jgs_cons (jg_name (i := 4) nd) jgs_nil)))))
    (jss_cons (js_set 5 nd (je_bin jo_sub (je_call (ok_found_weight G) hr ctx_px (ja_cons (je_var 0) (ja_cons (je_var 2) ja_nil))) (je_call (ok_found_weight G) hr ctx_px (ja_cons (je_var 0) (ja_cons (je_var 4) ja_nil)))))
    (jss_one (js_ret (je_ifExp (jt_cmp (jo_ne hr.units) (je_var 3) je_str) (je_or (je_cmp jo_gtI (je_var 5) je_int) (je_one (je_and (je_cmp (jo_eq hr.units) (je_var 5) je_int) (je_one (je_cmp (jo_ne hr.units) (je_var 3) je_str))))) (je_cmp (jo_eq hr.units) (je_var 5) je_int))))))
theorem sc_do_agree : FnScope ["told", "weights", "one"] ["told", "weights"] (defScope (top 24)) := ⟨rfl, rfl, rfl, by decide +kernel, rfl, by decide +kernel, by decide +kernel⟩
theorem ok_do_agree (G : Fx fa fn qs K mg) : Cl P w K mg base 3 "do_agree" 2 f_do_agree := by
  obtain ⟨fd, F⟩ := G.def_ 9 (d := d9) rfl rfl rfl
  refine cl_of F (G.glo 9 rfl) (F.bindsN fun _ _ _ _ _ _ us hl => match us, hl with | [_, _], _ => rfl) (fn_body (N := ["told", "weights", "one"]) (ps := ["told", "weights"]) F sc_do_agree fun cdv A outer s H E hr => ?_)
  have nd := sc_do_agree.nd
  exact (jss_one (js_ret (je_callB (jc_all rfl) (ja_cons (je_fz (jf_lc (own := [("one", 2)]) rfl nd (blkOk_by (by kernel_rfl)) (ji_seq (je_var 0)) (fun _ _ _ _ _ => (jg_name (i := 2) nd)) (fun _ _ _ _ _ => jts_nil) (fun _ _ _ _ _ => (je_call (ok_does_hold G) hr passL (ja_cons (je_var 1) (ja_cons (je_var 2) ja_nil)))))) ja_nil) (fr_all G) (by decide +kernel))))
theorem sc_small_weights : FnScope ["things", "most", "rows", "thing", "row", "one", "total", "weights"] ["things", "most"] (defScope (top 28)) := ⟨rfl, rfl, rfl, by decide +kernel, rfl, by decide +kernel, by decide +kernel⟩
theorem ok_small_weights (G : Fx fa fn qs K mg) : Cl P w K mg base 1 "small_weights" 2 f_small_weights := by
  obtain ⟨fd, F⟩ := G.def_ 10 (d := d10) rfl rfl rfl
  refine cl_of F (G.glo 10 rfl) (F.bindsN fun _ _ _ _ _ _ us hl => match us, hl with | [_, _], _ => rfl) (fn_body (N := ["things", "most", "rows", "thing", "row", "one", "total", "weights"]) (ps := ["things", "most"]) F sc_small_weights fun cdv A outer s H E hr => ?_)
  have nd := sc_small_weights.nd
  exact (jss_cons (js_set 2 nd (je_fz (jf_lst (ja_cons (je_tup ja_nil) ja_nil))))
    (jss_cons (js_for (vs := [3]) ctx_po rfl (ji_range1 (ja_cons (je_var 0) ja_nil) (fr_range G)) (jg_name (i := 3) nd) (jss_one (js_setLc2 (i := 2) (own := [("row", 4), ("one", 5)]) (vs1 := [5]) rfl nd (blkOk_by (by kernel_rfl)) (by decide) (ji_seq (je_var 2)) (fun _ _ _ _ _ => (jg_name (i := 4) nd)) (fun _ _ _ _ _ => jts_nil) (fun _ _ _ _ _ => (ji_range2 (ja_cons je_int (ja_cons (je_bin jo_add (je_var 1) je_int) ja_nil)) (fr_range G))) (fun _ _ _ _ _ => (jg_name (i := 5) nd)) (fun _ _ _ _ _ => jts_nil) (fun _ _ _ _ _ => (je_bin jo_add (je_var 4) (je_tup (ja_cons (je_var 5) ja_nil)))))))
    (jss_one (js_ret (je_fz (jf_lc (own := [("total", 6), ("weights", 7)]) rfl nd (blkOk_by (by kernel_rfl)) (ji_seq (je_fz (jf_sorted hr.units (je_fz (jf_lc (own := [("row", 4)]) rfl nd (blkOk_by (by kernel_rfl)) (ji_seq (je_var 2)) (fun _ _ _ _ _ => (jg_name (i := 4) nd)) (fun _ _ _ _ _ => jts_nil) (fun _ _ _ _ _ => (je_tup (ja_cons (je_callB (jc_sumA rfl) (ja_cons (je_var 4) ja_nil) (fr_sum G) (by decide +kernel)) (ja_cons (je_var 4) ja_nil)))))) (fr_sorted G)))) (fun _ _ _ _ _ => (jg_tup rfl (jgs_cons (jg_name (i := 6) nd) (jgs_cons (jg_name (i := 7) nd) jgs_nil)))) (fun _ _ _ _ _ => jts_nil) (fun _ _ _ _ _ => (je_var 7))))))))
theorem sc_all_lots : FnScope ["things", "rows", "thing", "row"] ["things"] (defScope (top 26)) := ⟨rfl, rfl, rfl, by decide +kernel, rfl, by decide +kernel, by decide +kernel⟩
theorem ok_all_lots (G : Fx fa fn qs K mg) : Cl P w K mg base 1 "all_lots" 1 f_all_lots := by
  obtain ⟨fd, F⟩ := G.def_ 11 (d := d11) rfl rfl rfl
  refine cl_of F (G.glo 11 rfl) (F.bindsN fun _ _ _ _ _ _ us hl => match us, hl with | [_], _ => rfl) (fn_body (N := ["things", "rows", "thing", "row"]) (ps := ["things"]) F sc_all_lots fun cdv A outer s H E hr => ?_)
  have nd := sc_all_lots.nd
  exact (jss_cons (js_set 1 nd (je_fz (jf_lst (ja_cons (je_tup ja_nil) ja_nil))))
    (jss_cons (js_for (vs := [2]) ctx_po rfl (ji_range1 (ja_cons (je_var 0) ja_nil) (fr_range G)) (jg_name (i := 2) nd) (jss_one (js_set 1 nd (je_bin jo_add (je_var 1) (je_fz (jf_lc (own := [("row", 3)]) rfl nd (blkOk_by (by kernel_rfl)) (ji_seq (je_var 1)) (fun _ _ _ _ _ => (jg_name (i := 3) nd)) (fun _ _ _ _ _ => jts_nil) (fun _ _ _ _ _ => (je_bin jo_add (je_var 3) (je_tup (ja_cons (je_var 2) ja_nil))))))))))
    (jss_one (js_ret (je_fz (jf_sorted hr.units (je_var 1) (fr_sorted G)))))))
theorem sc_found_order : FnScope ["weights", "table", "lot", "weight"] ["weights"] (defScope (top 27)) := ⟨rfl, rfl, rfl, by decide +kernel, rfl, by decide +kernel, by decide +kernel⟩
theorem ok_found_order (G : Fx fa fn qs K mg) : Cl P w K mg base 2 "found_order" 1 f_found_order := by
  obtain ⟨fd, F⟩ := G.def_ 12 (d := d12) rfl rfl rfl
  refine cl_of F (G.glo 12 rfl) (F.bindsN fun _ _ _ _ _ _ us hl => match us, hl with | [_], _ => rfl) (fn_body (N := ["weights", "table", "lot", "weight"]) (ps := ["weights"]) F sc_found_order fun cdv A outer s H E hr => ?_)
  have nd := sc_found_order.nd
  exact (jss_cons (js_set 1 nd je_dct)
    (jss_cons (js_for (vs := [2]) ctx_po rfl (ji_seq (je_call (ok_all_lots G) hr ctx_px (ja_cons (je_callB jc_len (ja_cons (je_var 0) ja_nil) (fr_len G) PySem.boot_len) ja_nil))) (jg_name (i := 2) nd) (jss_cons (js_set 3 nd (je_call (ok_found_weight G) hr ctx_px (ja_cons (je_var 0) (ja_cons (je_var 2) ja_nil))))
    (jss_one (js_dput (u1 hr) (je_var 1) (je_var 3) (je_bin jo_add (je_dget2 (u1 hr) (je_var 1) (je_var 3) (je_tup ja_nil)) (je_tup (ja_cons (je_var 2) ja_nil)))))))
    (jss_one (js_ret (je_callTy jc_tuple (ja_cons (je_fz (jf_lc (own := [("weight", 3)]) rfl nd (blkOk_by (by kernel_rfl)) (ji_seq (je_fz (jf_sortK rfl (je_var 1) (fr_sorted G)))) (fun _ _ _ _ _ => (jg_name (i := 3) nd)) (fun _ _ _ _ _ => jts_nil) (fun _ _ _ _ _ => (je_dget (u1 hr) (je_var 1) (je_var 3))))) ja_nil) (fr_tuple G) (by decide +kernel))))))
theorem sc_found_orders : FnScope ["things", "found", "weights", "order"] ["things"] (defScope (top 29)) := ⟨rfl, rfl, rfl, by decide +kernel, rfl, by decide +kernel, by decide +kernel⟩
theorem ok_found_orders (G : Fx fa fn qs K mg) : Cl P w K mg base 3 "found_orders" 1 f_found_orders := by
  obtain ⟨fd, F⟩ := G.def_ 13 (d := d13) rfl rfl rfl
  refine cl_of F (G.glo 13 rfl) (F.bindsN fun _ _ _ _ _ _ us hl => match us, hl with | [_], _ => rfl) (fn_body (N := ["things", "found", "weights", "order"]) (ps := ["things"]) F sc_found_orders fun cdv A outer s H E hr => ?_)
  have nd := sc_found_orders.nd
  exact (jss_cons (js_set 1 nd je_dcn)
    (jss_cons (js_for (vs := [2]) ctx_po rfl (ji_seq (je_call (ok_small_weights G) hr ctx_px (ja_cons (je_var 0) (ja_cons je_int ja_nil)))) (jg_name (i := 2) nd) (jss_cons (js_set 3 nd (je_call (ok_found_order G) hr ctx_px (ja_cons (je_var 2) ja_nil)))
    (jss_one (js_if (jt_cmp (jo_ninN hr.units) (je_var 3) (je_var 1)) (jss_one (js_asg (vs := []) (je_var 2) (jg_subN hr.units (je_var 1) (je_var 3)))) jss_nil))))
    (jss_one (js_ret (je_var 1)))))
theorem sc_found_agreeing : FnScope ["things", "told", "order", "weights"] ["things", "told"] (defScope (top 34)) := ⟨rfl, rfl, rfl, by decide +kernel, rfl, by decide +kernel, by decide +kernel⟩
theorem ok_found_agreeing (G : Fx fa fn qs K mg) : Cl P w K mg base 6 "found_agreeing" 2 f_found_agreeing := by
  obtain ⟨fd, F⟩ := G.def_ 14 (d := d14) rfl rfl rfl
  refine cl_of F (G.glo 14 rfl) (F.bindsN fun _ _ _ _ _ _ us hl => match us, hl with | [_, _], _ => rfl) (fn_body (N := ["things", "told", "order", "weights"]) (ps := ["things", "told"]) F sc_found_agreeing fun cdv A outer s H E hr => ?_)
  have nd := sc_found_agreeing.nd
  exact (jss_cons (js_expr (je_call (ok_check_told G) hr ctx_px (ja_cons (je_var 0) (ja_cons (je_var 1) ja_nil))))
    (jss_cons (js_if (jt_cmp jo_gtI (je_var 0) je_int) (jss_one (js_raise rfl ctx_tk (G.exc "TooMany" (by decide)))) jss_nil)
    (jss_one (js_ret (je_fz (jf_lc (own := [("order", 2), ("weights", 3)]) rfl nd (blkOk_by (by kernel_rfl)) (ji_itemsN (je_frzD (je_call (ok_found_orders G) hr ctx_px (ja_cons (je_var 0) ja_nil)))) (fun _ _ _ _ _ => (jg_tup rfl (jgs_cons (jg_name (i := 2) nd) (jgs_cons (jg_name (i := 3) nd) jgs_nil)))) (fun _ _ _ _ _ => (jts_one (jt_val (je_call (ok_do_agree G) hr passL (ja_cons (je_var 1) (ja_cons (je_var 3) ja_nil)))))) (fun _ _ _ _ _ => (je_tup (ja_cons (je_var 2) (ja_cons (je_var 3) ja_nil))))))))))
theorem sc_weights_left : FnScope ["things", "told", "found", "order", "weights"] ["things", "told"] (defScope (top 36)) := ⟨rfl, rfl, rfl, by decide +kernel, rfl, by decide +kernel, by decide +kernel⟩
theorem ok_weights_left (G : Fx fa fn qs K mg) : Cl P w K mg base 7 "weights_left" 2 f_weights_left := by
  obtain ⟨fd, F⟩ := G.def_ 15 (d := d15) rfl rfl rfl
  refine cl_of F (G.glo 15 rfl) (F.bindsN fun _ _ _ _ _ _ us hl => match us, hl with | [_, _], _ => rfl) (fn_body (N := ["things", "told", "found", "order", "weights"]) (ps := ["things", "told"]) F sc_weights_left fun cdv A outer s H E hr => ?_)
  have nd := sc_weights_left.nd
  exact (jss_cons (js_set 2 nd (je_callTy jc_tuple (ja_cons (je_fz (jf_lc (own := [("order", 3), ("weights", 4)]) rfl nd (blkOk_by (by kernel_rfl)) (ji_seq (je_call (ok_found_agreeing G) hr ctx_px (ja_cons (je_var 0) (ja_cons (je_var 1) ja_nil)))) (fun _ _ _ _ _ => (jg_tup rfl (jgs_cons (jg_name (i := 3) nd) (jgs_cons (jg_name (i := 4) nd) jgs_nil)))) (fun _ _ _ _ _ => jts_nil) (fun _ _ _ _ _ => (je_var 4)))) ja_nil) (fr_tuple G) (by decide +kernel)))
    (jss_cons (js_if (jt_cmp (jo_eq hr.units) (je_var 2) (je_tup ja_nil)) (jss_one (js_raise rfl ctx_tk (G.exc "NoneAgree" (by decide)))) jss_nil)
    (jss_one (js_ret (je_var 2)))))
theorem sc_all_questions : FnScope ["things", "some", "found", "one", "lot", "other", "thing"] ["things"] (defScope (top 37)) := ⟨rfl, rfl, rfl, by decide +kernel, rfl, by decide +kernel, by decide +kernel⟩
theorem ok_all_questions (G : Fx fa fn qs K mg) : Cl P w K mg base 2 "all_questions" 1 f_all_questions := by
  obtain ⟨fd, F⟩ := G.def_ 16 (d := d16) rfl rfl rfl
  refine cl_of F (G.glo 16 rfl) (F.bindsN fun _ _ _ _ _ _ us hl => match us, hl with | [_], _ => rfl) (fn_body (N := ["things", "some", "found", "one", "lot", "other", "thing"]) (ps := ["things"]) F sc_all_questions fun cdv A outer s H E hr => ?_)
  have nd := sc_all_questions.nd
  exact (jss_cons (js_setLc (i := 1) (own := [("lot", 4)]) rfl nd (blkOk_by (by kernel_rfl)) (ji_seq (je_call (ok_all_lots G) hr ctx_px (ja_cons (je_var 0) ja_nil))) (fun _ _ _ _ _ => (jg_name (i := 4) nd)) (fun _ _ _ _ _ => (jts_one (jt_cmp (jo_ne hr.units) (je_var 4) (je_tup ja_nil)))) (fun _ _ _ _ _ => (je_var 4)))
    (jss_cons (js_set 2 nd (je_ow (jf_lst ja_nil)))
    (jss_cons (js_for (vs := [3]) ctx_po rfl (ji_seq (je_var 1)) (jg_name (i := 3) nd) (jss_one (js_expr (je_extend (je_var 2) (ja_cons (je_fz (jf_lc (own := [("other", 5)]) rfl nd (blkOk_by (by kernel_rfl)) (ji_seq (je_var 1)) (fun _ _ _ _ _ => (jg_name (i := 5) nd)) (fun _ _ _ _ _ => (jts_one (JW.jt (jw_and (jt_cmp (jo_lt hr.units0) (je_var 3) (je_var 5)) (jw_and1 (jt_not (jt_val (je_callB (jc_any rfl) (ja_cons (je_fz (jf_lc (own := [("thing", 6)]) rfl nd (blkOk_by (by kernel_rfl)) (ji_seq (je_var 3)) (fun _ _ _ _ _ => (jg_name (i := 6) nd)) (fun _ _ _ _ _ => jts_nil) (fun _ _ _ _ _ => (je_cmp (jo_in (u65 hr)) (je_var 6) (je_var 5))))) ja_nil) (fr_any G) (by decide +kernel))))))))) (fun _ _ _ _ _ => (je_tup (ja_cons (je_var 3) (ja_cons (je_var 5) ja_nil)))))) ja_nil)))))
    (jss_one (js_ret (je_frz (je_var 2)))))))
theorem sc_some_numbers : FnScope ["many", "size", "rows", "time", "row", "one"] ["many", "size"] (defScope (top 32)) := ⟨rfl, rfl, rfl, by decide +kernel, rfl, by decide +kernel, by decide +kernel⟩
theorem ok_some_numbers (G : Fx fa fn qs K mg) : Cl P w K mg base 1 "some_numbers" 2 f_some_numbers := by
  obtain ⟨fd, F⟩ := G.def_ 17 (d := d17) rfl rfl rfl
  refine cl_of F (G.glo 17 rfl) (F.bindsN fun _ _ _ _ _ _ us hl => match us, hl with | [_, _], _ => rfl) (fn_body (N := ["many", "size", "rows", "time", "row", "one"]) (ps := ["many", "size"]) F sc_some_numbers fun cdv A outer s H E hr => ?_)
  have nd := sc_some_numbers.nd
  exact (jss_cons (js_set 2 nd (je_fz (jf_lst (ja_cons (je_tup ja_nil) ja_nil))))
    (jss_cons (js_for (vs := [3]) ctx_po rfl (ji_range1 (ja_cons (je_var 1) ja_nil) (fr_range G)) (jg_name (i := 3) nd) (jss_one (js_setLc2 (i := 2) (own := [("row", 4), ("one", 5)]) (vs1 := [5]) rfl nd (blkOk_by (by kernel_rfl)) (by decide) (ji_seq (je_var 2)) (fun _ _ _ _ _ => (jg_name (i := 4) nd)) (fun _ _ _ _ _ => jts_nil) (fun _ _ _ _ _ => (ji_range1 (ja_cons (je_var 0) ja_nil) (fr_range G))) (fun _ _ _ _ _ => (jg_name (i := 5) nd)) (fun _ _ _ _ _ => (jts_one (JW.jt (jw_or (jt_cmp (jo_eq hr.units) (je_var 4) (je_tup ja_nil)) (jw_or1 (jt_cmp (jo_lt hr.units0) (je_ix jx_ix (je_var 4) (je_neg je_int)) (je_var 5))))))) (fun _ _ _ _ _ => (je_bin jo_add (je_var 4) (je_tup (ja_cons (je_var 5) ja_nil)))))))
    (jss_one (js_ret (je_var 2)))))
theorem sc_answer_of : FnScope ["question", "weights", "more"] ["question", "weights"] (defScope (top 38)) := ⟨rfl, rfl, rfl, by decide +kernel, rfl, by decide +kernel, by decide +kernel⟩
theorem ok_answer_of (G : Fx fa fn qs K mg) : Cl P w K mg base 2 "answer_of" 2 f_answer_of := by
  obtain ⟨fd, F⟩ := G.def_ 18 (d := d18) rfl rfl rfl
  refine cl_of F (G.glo 18 rfl) (F.bindsN fun _ _ _ _ _ _ us hl => match us, hl with | [_, _], _ => rfl) (fn_body (N := ["question", "weights", "more"]) (ps := ["question", "weights"]) F sc_answer_of fun cdv A outer s H E hr => ?_)
  have nd := sc_answer_of.nd
  exact (jss_cons (js_set 2 nd (je_bin jo_sub (je_call (ok_found_weight G) hr ctx_px (ja_cons (je_var 1) (ja_cons (je_ix jx_ix (je_var 0) je_int) ja_nil))) (je_call (ok_found_weight G) hr ctx_px (ja_cons (je_var 1) (ja_cons (je_ix jx_ix (je_var 0) je_int) ja_nil)))))
    (jss_one (js_ret (je_ifExp (jt_cmp jo_gtI (je_var 2) je_int) je_str (je_ifExp (jt_cmp (jo_eq hr.units) (je_var 2) je_int) je_str je_str)))))
theorem sc_fewest_further : FnScope ["things", "told", "some", "questions", "size", "numbers", "rows", "weights", "k"] ["things", "told"] (defScope (top 39)) := ⟨rfl, rfl, rfl, by decide +kernel, rfl, by decide +kernel, by decide +kernel⟩
theorem ok_fewest_further (G : Fx fa fn qs K mg) : Cl P w K mg base 8 "fewest_further" 2 f_fewest_further := by
  obtain ⟨fd, F⟩ := G.def_ 19 (d := d19) rfl rfl rfl
  refine cl_of F (G.glo 19 rfl) (F.bindsN fun _ _ _ _ _ _ us hl => match us, hl with | [_, _], _ => rfl) (fn_body (N := ["things", "told", "some", "questions", "size", "numbers", "rows", "weights", "k"]) (ps := ["things", "told"]) F sc_fewest_further fun cdv A outer s H E hr => ?_)
  have nd := sc_fewest_further.nd
  exact (jss_cons (js_set 2 nd (je_call (ok_weights_left G) hr ctx_px (ja_cons (je_var 0) (ja_cons (je_var 1) ja_nil))))
    (jss_cons (js_set 3 nd (je_call (ok_all_questions G) hr ctx_px (ja_cons (je_var 0) ja_nil)))
    (jss_cons (js_for (vs := [4]) ctx_po rfl (ji_range1 (ja_cons (je_bin jo_add (je_callB jc_len (ja_cons (je_var 3) ja_nil) (fr_len G) PySem.boot_len) je_int) ja_nil) (fr_range G)) (jg_name (i := 4) nd) (jss_one (js_for (vs := [5]) ctx_po rfl (ji_seq (je_call (ok_some_numbers G) hr ctx_px (ja_cons (je_callB jc_len (ja_cons (je_var 3) ja_nil) (fr_len G) PySem.boot_len) (ja_cons (je_var 4) ja_nil)))) (jg_name (i := 5) nd) (jss_cons (js_setLc (i := 6) (own := [("weights", 7)]) rfl nd (blkOk_by (by kernel_rfl)) (ji_seq (je_var 2)) (fun _ _ _ _ _ => (jg_name (i := 7) nd)) (fun _ _ _ _ _ => jts_nil) (fun _ _ _ _ _ => (je_callTy jc_tuple (ja_cons (je_fz (jf_lc (own := [("k", 8)]) rfl nd (blkOk_by (by kernel_rfl)) (ji_seq (je_var 5)) (fun _ _ _ _ _ => (jg_name (i := 8) nd)) (fun _ _ _ _ _ => jts_nil) (fun _ _ _ _ _ => (je_call (ok_answer_of G) hr passL (ja_cons (je_ix jx_ix (je_var 3) (je_var 8)) (ja_cons (je_var 7) ja_nil)))))) ja_nil) (fr_tuple G) (by decide +kernel))))
    (jss_one (js_if (jt_cmp (jo_eq hr.units) (je_lenSetT (u65 hr) rfl (je_var 6) (fr_len G) (fr_set G)) (je_callB jc_len (ja_cons (je_var 6) ja_nil) (fr_len G) PySem.boot_len)) (jss_one (js_ret (je_callTy jc_tuple (ja_cons (je_fz (jf_lc (own := [("k", 8)]) rfl nd (blkOk_by (by kernel_rfl)) (ji_seq (je_var 5)) (fun _ _ _ _ _ => (jg_name (i := 8) nd)) (fun _ _ _ _ _ => jts_nil) (fun _ _ _ _ _ => (je_ix jx_ix (je_var 3) (je_var 8))))) ja_nil) (fr_tuple G) (by decide +kernel)))) jss_nil))))))
    (jss_one (js_ret je_non)))))
theorem sc__law_draw : FnScope ["script", "town", "limit", "at", "left", "number"] ["script", "town", "limit"] (defScope (top 47)) := ⟨rfl, rfl, rfl, by decide +kernel, rfl, by decide +kernel, by decide +kernel⟩
theorem ok__law_draw (G : Fx fa fn qs K mg) : Cl P w K mg base 1 "_law_draw" 3 f__law_draw := by
  obtain ⟨fd, F⟩ := G.def_ 20 (d := d20) rfl rfl rfl
  refine cl_of F (G.glo 20 rfl) (F.bindsN fun _ _ _ _ _ _ us hl => match us, hl with | [_, _, _], _ => rfl) (fn_body (N := ["script", "town", "limit", "at", "left", "number"]) (ps := ["script", "town", "limit"]) F sc__law_draw fun cdv A outer s H E hr => ?_)
  have nd := sc__law_draw.nd
  exact (jss_cons (js_asg (vs := []) (je_bin jo_add (je_ix jx_ix (je_var 1) je_int) je_int) (jg_sub (je_var 1) je_int))
    (jss_cons (js_if (jt_cmp (jo_eq hr.units) (je_var 0) (je_fz (jf_lst ja_nil))) (jss_one (js_ret (je_bin jo_mod (je_bin jo_div (je_bin jo_mul (je_bin jo_mul (je_ix jx_ix (je_var 1) je_int) (je_ix jx_ix (je_var 1) je_int)) je_int) je_int) (je_var 2)))) jss_nil)
    (jss_cons (js_set 3 nd (je_bin jo_mod (je_ix jx_ix (je_var 1) je_int) (je_callB jc_len (ja_cons (je_var 0) ja_nil) (fr_len G) PySem.boot_len)))
    (jss_cons (js_set 4 nd (je_ix jx_ix (je_var 1) (je_bin jo_add je_int (je_var 3))))
    (jss_cons (js_if (JW.jt (jw_and (jt_cmp jo_geI (je_ix jx_ix (je_var 0) (je_var 3)) (je_bin jo_pow je_int je_int)) (jw_and1 (jt_cmp jo_gtI (je_var 4) je_int)))) (jss_cons (js_asg (vs := []) (je_bin jo_div (je_var 4) (je_var 2)) (jg_sub (je_var 1) (je_bin jo_add je_int (je_var 3))))
    (jss_one (js_ret (je_bin jo_mod (je_var 4) (je_var 2))))) jss_nil)
    (jss_cons (js_set 5 nd (je_bin jo_mod (je_bin jo_add (je_ix jx_ix (je_var 0) (je_var 3)) (je_bin jo_mul je_int (je_ix jx_ix (je_var 1) je_int))) je_int))
    (jss_cons (js_set 5 nd (je_bin jo_mod (je_bin jo_pow (je_var 5) je_int) je_int))
    (jss_one (js_ret (je_bin jo_mod (je_bin jo_div (je_bin jo_mod (je_bin jo_add (je_bin jo_mul (je_bin jo_div (je_var 5) je_int) je_int) (je_var 5)) je_int) je_int) (je_var 2)))))))))))
theorem sc__law_pick : FnScope ["script", "town", "choices"] ["script", "town", "choices"] (defScope (top 48)) := ⟨rfl, rfl, rfl, by decide +kernel, rfl, by decide +kernel, by decide +kernel⟩
theorem ok__law_pick (G : Fx fa fn qs K mg) : Cl P w K mg base 2 "_law_pick" 3 f__law_pick := by
  obtain ⟨fd, F⟩ := G.def_ 21 (d := d21) rfl rfl rfl
  refine cl_of F (G.glo 21 rfl) (F.bindsN fun _ _ _ _ _ _ us hl => match us, hl with | [_, _, _], _ => rfl) (fn_body (N := ["script", "town", "choices"]) (ps := ["script", "town", "choices"]) F sc__law_pick fun cdv A outer s H E hr => ?_)
  have nd := sc__law_pick.nd
  exact (jss_one (js_ret (je_ix jx_ix (je_var 2) (je_call (ok__law_draw G) hr ctx_px (ja_cons (je_var 0) (ja_cons (je_var 1) (ja_cons (je_callB jc_len (ja_cons (je_var 2) ja_nil) (fr_len G) PySem.boot_len) ja_nil)))))))
theorem sc__law_scale : FnScope ["script", "town", "things", "most", "k"] ["script", "town", "things"] (defScope (top 57)) := ⟨rfl, rfl, rfl, by decide +kernel, rfl, by decide +kernel, by decide +kernel⟩
theorem ok__law_scale (G : Fx fa fn qs K mg) : Cl P w K mg base 3 "_law_scale" 3 f__law_scale := by
  obtain ⟨fd, F⟩ := G.def_ 22 (d := d22) rfl rfl rfl
  refine cl_of F (G.glo 22 rfl) (F.bindsN fun _ _ _ _ _ _ us hl => match us, hl with | [_, _, _], _ => rfl) (fn_body (N := ["script", "town", "things", "most", "k"]) (ps := ["script", "town", "things"]) F sc__law_scale fun cdv A outer s H E hr => ?_)
  have nd := sc__law_scale.nd
  exact (jss_cons (js_set 3 nd (je_call (ok__law_pick G) hr ctx_px (ja_cons (je_var 0) (ja_cons (je_var 1) (ja_cons (je_fz (jf_lst (ja_cons je_int (ja_cons je_int (ja_cons je_int ja_nil))))) ja_nil)))))
    (jss_one (js_ret (je_callTy jc_tuple (ja_cons (je_fz (jf_lc (own := [("k", 4)]) rfl nd (blkOk_by (by kernel_rfl)) (ji_range1 (ja_cons (je_var 2) ja_nil) (fr_range G)) (fun _ _ _ _ _ => (jg_name (i := 4) nd)) (fun _ _ _ _ _ => jts_nil) (fun _ _ _ _ _ => (je_bin jo_add je_int (je_call (ok__law_draw G) hr passL (ja_cons (je_var 0) (ja_cons (je_var 1) (ja_cons (je_var 3) ja_nil)))))))) ja_nil) (fr_tuple G) (by decide +kernel)))))
theorem sc__law_lots : FnScope ["things", "found", "k", "lot"] ["things"] (defScope (top 52)) := ⟨rfl, rfl, rfl, by decide +kernel, rfl, by decide +kernel, by decide +kernel⟩
theorem ok__law_lots (G : Fx fa fn qs K mg) : Cl P w K mg base 1 "_law_lots" 1 f__law_lots := by
  obtain ⟨fd, F⟩ := G.def_ 23 (d := d23) rfl rfl rfl
  refine cl_of F (G.glo 23 rfl) (F.bindsN fun _ _ _ _ _ _ us hl => match us, hl with | [_], _ => rfl) (fn_body (N := ["things", "found", "k", "lot"]) (ps := ["things"]) F sc__law_lots fun cdv A outer s H E hr => ?_)
  have nd := sc__law_lots.nd
  exact (jss_cons (js_set 1 nd (je_fz (jf_lst (ja_cons (je_tup ja_nil) ja_nil))))
    (jss_cons (js_for (vs := [2]) ctx_po rfl (ji_range1 (ja_cons (je_var 0) ja_nil) (fr_range G)) (jg_name (i := 2) nd) (jss_one (js_set 1 nd (je_bin jo_add (je_var 1) (je_fz (jf_lc (own := [("lot", 3)]) rfl nd (blkOk_by (by kernel_rfl)) (ji_seq (je_var 1)) (fun _ _ _ _ _ => (jg_name (i := 3) nd)) (fun _ _ _ _ _ => jts_nil) (fun _ _ _ _ _ => (je_bin jo_add (je_var 3) (je_tup (ja_cons (je_var 2) ja_nil))))))))))
    (jss_one (js_ret (je_fz (jf_sorted hr.units (je_var 1) (fr_sorted G)))))))
theorem sc__law_weight : FnScope ["scale", "lot", "k"] ["scale", "lot"] (defScope (top 53)) := ⟨rfl, rfl, rfl, by decide +kernel, rfl, by decide +kernel, by decide +kernel⟩
theorem ok__law_weight (G : Fx fa fn qs K mg) : Cl P w K mg base 1 "_law_weight" 2 f__law_weight := by
  obtain ⟨fd, F⟩ := G.def_ 24 (d := d24) rfl rfl rfl
  refine cl_of F (G.glo 24 rfl) (F.bindsN fun _ _ _ _ _ _ us hl => match us, hl with | [_, _], _ => rfl) (fn_body (N := ["scale", "lot", "k"]) (ps := ["scale", "lot"]) F sc__law_weight fun cdv A outer s H E hr => ?_)
  have nd := sc__law_weight.nd
  exact (jss_one (js_ret (je_callB (jc_sum rfl) (ja_cons (je_fz (jf_lc (own := [("k", 2)]) rfl nd (blkOk_by (by kernel_rfl)) (ji_seq (je_var 1)) (fun _ _ _ _ _ => (jg_name (i := 2) nd)) (fun _ _ _ _ _ => jts_nil) (fun _ _ _ _ _ => (je_ix jx_ix (je_var 0) (je_var 2))))) ja_nil) (fr_sum G) (by decide +kernel))))
theorem sc__law_comparison : FnScope ["script", "town", "things", "scale", "lots_now", "one", "other", "sign", "more"] ["script", "town", "things", "scale"] (defScope (top 56)) := ⟨rfl, rfl, rfl, by decide +kernel, rfl, by decide +kernel, by decide +kernel⟩
theorem ok__law_comparison (G : Fx fa fn qs K mg) : Cl P w K mg base 3 "_law_comparison" 4 f__law_comparison := by
  obtain ⟨fd, F⟩ := G.def_ 25 (d := d25) rfl rfl rfl
  refine cl_of F (G.glo 25 rfl) (F.bindsN fun _ _ _ _ _ _ us hl => match us, hl with | [_, _, _, _], _ => rfl) (fn_body (N := ["script", "town", "things", "scale", "lots_now", "one", "other", "sign", "more"]) (ps := ["script", "town", "things", "scale"]) F sc__law_comparison fun cdv A outer s H E hr => ?_)
  have nd := sc__law_comparison.nd
  exact (jss_cons (js_set 4 nd (je_call (ok__law_lots G) hr ctx_px (ja_cons (je_var 2) ja_nil)))
    (jss_cons (js_par (i := 5) (j := 6) rfl nd (ja_cons (je_call (ok__law_pick G) hr ctx_px (ja_cons (je_var 0) (ja_cons (je_var 1) (ja_cons (je_var 4) ja_nil)))) (ja_cons (je_call (ok__law_pick G) hr ctx_px (ja_cons (je_var 0) (ja_cons (je_var 1) (ja_cons (je_var 4) ja_nil)))) ja_nil)))
    (jss_cons (js_set 7 nd (je_call (ok__law_pick G) hr ctx_px (ja_cons (je_var 0) (ja_cons (je_var 1) (ja_cons (je_fz (jf_lst (ja_cons je_str (ja_cons je_str (ja_cons je_str (ja_cons je_str ja_nil)))))) ja_nil)))))
    (jss_cons (js_if (jt_cmp jo_gtI (je_call (ok__law_draw G) hr ctx_px (ja_cons (je_var 0) (ja_cons (je_var 1) (ja_cons je_int ja_nil)))) je_int) (jss_cons (js_set 8 nd (je_bin jo_sub (je_call (ok__law_weight G) hr ctx_px (ja_cons (je_var 3) (ja_cons (je_var 5) ja_nil))) (je_call (ok__law_weight G) hr ctx_px (ja_cons (je_var 3) (ja_cons (je_var 6) ja_nil)))))
    (jss_cons (js_asg (vs := [5, 6]) (je_ifExp (jt_cmp jo_geI (je_var 8) je_int) (je_tup (ja_cons (je_var 5) (ja_cons (je_var 6) ja_nil))) (je_tup (ja_cons (je_var 6) (ja_cons (je_var 5) ja_nil)))) (jg_tup rfl (jgs_cons (jg_name (i := 5) nd) (jgs_cons (jg_name (i := 6) nd) jgs_nil))))
    (jss_one (js_set 7 nd (je_ifExp (JW.jt (jw_or (JW.jt (jw_and (jt_cmp (jo_eq hr.units) (je_var 8) je_int) (jw_and1 (jt_cmp (jo_ne hr.units) (je_var 7) je_str)))) (jw_or1 (JW.jt (jw_and (jt_cmp (jo_ne hr.units) (je_var 8) je_int) (jw_and1 (jt_cmp (jo_ne hr.units) (je_var 7) je_str))))))) (je_var 7) je_str))))) jss_nil)
    (jss_one (js_ret (je_tup (ja_cons (je_var 5) (ja_cons (je_var 7) (ja_cons (je_var 6) ja_nil))))))))))
theorem sc__law_told : FnScope ["script", "town", "things", "most", "scale", "k"] ["script", "town", "things", "most"] (defScope (top 58)) := ⟨rfl, rfl, rfl, by decide +kernel, rfl, by decide +kernel, by decide +kernel⟩
theorem ok__law_told (G : Fx fa fn qs K mg) : Cl P w K mg base 4 "_law_told" 4 f__law_told := by
  obtain ⟨fd, F⟩ := G.def_ 26 (d := d26) rfl rfl rfl
  refine cl_of F (G.glo 26 rfl) (F.bindsN fun _ _ _ _ _ _ us hl => match us, hl with | [_, _, _, _], _ => rfl) (fn_body (N := ["script", "town", "things", "most", "scale", "k"]) (ps := ["script", "town", "things", "most"]) F sc__law_told fun cdv A outer s H E hr => ?_)
  have nd := sc__law_told.nd
  exact (jss_cons (js_set 4 nd (je_call (ok__law_scale G) hr ctx_px (ja_cons (je_var 0) (ja_cons (je_var 1) (ja_cons (je_var 2) ja_nil)))))
    (jss_one (js_ret (je_callTy jc_tuple (ja_cons (je_fz (jf_lc (own := [("k", 5)]) rfl nd (blkOk_by (by kernel_rfl)) (ji_range1 (ja_cons (je_call (ok__law_draw G) hr ctx_px (ja_cons (je_var 0) (ja_cons (je_var 1) (ja_cons (je_bin jo_add (je_var 3) je_int) ja_nil)))) ja_nil) (fr_range G)) (fun _ _ _ _ _ => (jg_name (i := 5) nd)) (fun _ _ _ _ _ => jts_nil) (fun _ _ _ _ _ => (je_call (ok__law_comparison G) hr passL (ja_cons (je_var 0) (ja_cons (je_var 1) (ja_cons (je_var 2) (ja_cons (je_var 4) ja_nil)))))))) ja_nil) (fr_tuple G) (by decide +kernel)))))
theorem sc__law_asks : FnScope ["things", "some", "found", "one", "lot", "two", "k"] ["things"] (defScope (top 60)) := ⟨rfl, rfl, rfl, by decide +kernel, rfl, by decide +kernel, by decide +kernel⟩
theorem ok__law_asks (G : Fx fa fn qs K mg) : Cl P w K mg base 2 "_law_asks" 1 f__law_asks := by
  obtain ⟨fd, F⟩ := G.def_ 27 (d := d27) rfl rfl rfl
  refine cl_of F (G.glo 27 rfl) (F.bindsN fun _ _ _ _ _ _ us hl => match us, hl with | [_], _ => rfl) (fn_body (N := ["things", "some", "found", "one", "lot", "two", "k"]) (ps := ["things"]) F sc__law_asks fun cdv A outer s H E hr => ?_)
  have nd := sc__law_asks.nd
  exact (jss_cons (js_par (i := 1) (j := 2) rfl nd (ja_cons (je_fz (jf_lc (own := [("lot", 4)]) rfl nd (blkOk_by (by kernel_rfl)) (ji_seq (je_call (ok__law_lots G) hr ctx_px (ja_cons (je_var 0) ja_nil))) (fun _ _ _ _ _ => (jg_name (i := 4) nd)) (fun _ _ _ _ _ => (jts_one (jt_cmp (jo_ne hr.units) (je_var 4) (je_tup ja_nil)))) (fun _ _ _ _ _ => (je_var 4)))) (ja_cons (je_fz (jf_lst ja_nil)) ja_nil)))
    (jss_cons (js_for (vs := [3]) ctx_po rfl (ji_seq (je_var 1)) (jg_name (i := 3) nd) (jss_one (js_set 2 nd (je_bin jo_add (je_var 2) (je_fz (jf_lc (own := [("two", 5)]) rfl nd (blkOk_by (by kernel_rfl)) (ji_seq (je_var 1)) (fun _ _ _ _ _ => (jg_name (i := 5) nd)) (fun _ _ _ _ _ => (jts_one (JW.jt (jw_and (jt_cmp (jo_lt hr.units0) (je_var 3) (je_var 5)) (jw_and1 (jt_cmp (jo_eq hr.units) (je_fz (jf_lc (own := [("k", 6)]) rfl nd (blkOk_by (by kernel_rfl)) (ji_seq (je_var 3)) (fun _ _ _ _ _ => (jg_name (i := 6) nd)) (fun _ _ _ _ _ => (jts_one (jt_cmp (jo_in (u65 hr)) (je_var 6) (je_var 5)))) (fun _ _ _ _ _ => (je_var 6)))) (je_fz (jf_lst ja_nil)))))))) (fun _ _ _ _ _ => (je_tup (ja_cons (je_var 3) (ja_cons (je_var 5) ja_nil))))))))))
    (jss_one (js_ret (je_var 2)))))
theorem sc_agreeing : FnScope ["things", "told", "order", "weights"] ["things", "told"] (defScope (top 35)) := ⟨rfl, rfl, rfl, by decide +kernel, rfl, by decide +kernel, by decide +kernel⟩
theorem ok_agreeing (G : Fx fa fn qs K mg) : Cl P w K mg base 7 "agreeing" 2 f_agreeing := by
  obtain ⟨fd, F⟩ := G.def_ 28 (d := d28) rfl rfl rfl
  refine cl_of F (G.glo 28 rfl) (F.bindsN fun _ _ _ _ _ _ us hl => match us, hl with | [_, _], _ => rfl) (fn_body (N := ["things", "told", "order", "weights"]) (ps := ["things", "told"]) F sc_agreeing fun cdv A outer s H E hr => ?_)
  have nd := sc_agreeing.nd
  exact (jss_one (js_ret (je_callTy jc_tuple (ja_cons (je_fz (jf_lc (own := [("order", 2), ("weights", 3)]) rfl nd (blkOk_by (by kernel_rfl)) (ji_seq (je_call (ok_found_agreeing G) hr ctx_px (ja_cons (je_var 0) (ja_cons (je_var 1) ja_nil)))) (fun _ _ _ _ _ => (jg_tup rfl (jgs_cons (jg_name (i := 2) nd) (jgs_cons (jg_name (i := 3) nd) jgs_nil)))) (fun _ _ _ _ _ => jts_nil) (fun _ _ _ _ _ => (je_var 2)))) ja_nil) (fr_tuple G) (by decide +kernel))))
theorem sc__law_sets : FnScope ["many", "size", "found", "turn", "later", "line", "k"] ["many", "size"] (defScope (top 62)) := ⟨rfl, rfl, rfl, by decide +kernel, rfl, by decide +kernel, by decide +kernel⟩
theorem ok__law_sets (G : Fx fa fn qs K mg) : Cl P w K mg base 1 "_law_sets" 2 f__law_sets := by
  obtain ⟨fd, F⟩ := G.def_ 29 (d := d29) rfl rfl rfl
  refine cl_of F (G.glo 29 rfl) (F.bindsN fun _ _ _ _ _ _ us hl => match us, hl with | [_, _], _ => rfl) (fn_body (N := ["many", "size", "found", "turn", "later", "line", "k"]) (ps := ["many", "size"]) F sc__law_sets fun cdv A outer s H E hr => ?_)
  have nd := sc__law_sets.nd
  exact (jss_cons (js_set 2 nd (je_fz (jf_lst (ja_cons (je_tup ja_nil) ja_nil))))
    (jss_cons (js_for (vs := [3]) ctx_po rfl (ji_range1 (ja_cons (je_var 1) ja_nil) (fr_range G)) (jg_name (i := 3) nd) (jss_cons (js_set 4 nd (je_fz (jf_lst ja_nil)))
    (jss_cons (js_for (vs := [5]) ctx_po rfl (ji_seq (je_var 2)) (jg_name (i := 5) nd) (jss_one (js_set 4 nd (je_bin jo_add (je_var 4) (je_fz (jf_lc (own := [("k", 6)]) rfl nd (blkOk_by (by kernel_rfl)) (ji_range1 (ja_cons (je_var 0) ja_nil) (fr_range G)) (fun _ _ _ _ _ => (jg_name (i := 6) nd)) (fun _ _ _ _ _ => (jts_one (JW.jt (jw_or (jt_cmp (jo_eq hr.units) (je_var 5) (je_tup ja_nil)) (jw_or1 (jt_cmp (jo_lt hr.units0) (je_ix jx_ix (je_var 5) (je_neg je_int)) (je_var 6))))))) (fun _ _ _ _ _ => (je_bin jo_add (je_var 5) (je_tup (ja_cons (je_var 6) ja_nil))))))))))
    (jss_one (js_set 2 nd (je_var 4))))))
    (jss_one (js_ret (je_var 2)))))
theorem sc__law_holds : FnScope ["scale", "comparison", "one", "sign", "other", "more"] ["scale", "comparison"] (defScope (top 54)) := ⟨rfl, rfl, rfl, by decide +kernel, rfl, by decide +kernel, by decide +kernel⟩
theorem ok__law_holds (G : Fx fa fn qs K mg) : Cl P w K mg base 2 "_law_holds" 2 f__law_holds := by
  obtain ⟨fd, F⟩ := G.def_ 30 (d := d30) rfl rfl rfl
  refine cl_of F (G.glo 30 rfl) (F.bindsN fun _ _ _ _ _ _ us hl => match us, hl with | [_, _], _ => rfl) (fn_body (N := ["scale", "comparison", "one", "sign", "other", "more"]) (ps := ["scale", "comparison"]) F sc__law_holds fun cdv A outer s H E hr => ?_)
  have nd := sc__law_holds.nd
  exact (jss_cons (js_asg (vs := [2, 3, 4]) (je_var 1) (jg_tup rfl (jgs_cons (jg_name (i := 2) nd) (jgs_cons (jg_name (i := 3) nd) (jgs_cons (jg_name (i := 4) nd) jgs_nil)))))
    (jss_cons (js_set 5 nd (je_bin jo_sub (je_call (ok__law_weight G) hr ctx_px (ja_cons (je_var 0) (ja_cons (je_var 2) ja_nil))) (je_call (ok__law_weight G) hr ctx_px (ja_cons (je_var 0) (ja_cons (je_var 4) ja_nil)))))
    (jss_cons (js_if (jt_cmp (jo_eq hr.units) (je_var 3) je_str) (jss_one (js_ret (je_cmp (jo_eq hr.units) (je_var 5) je_int))) jss_nil)
    (jss_one (js_ret (je_or (je_cmp jo_gtI (je_var 5) je_int) (je_one (je_and (je_cmp (jo_eq hr.units) (je_var 3) je_str) (je_one (je_cmp (jo_eq hr.units) (je_var 5) je_int))))))))))
theorem sc__law_agree : FnScope ["told", "scale", "one"] ["told", "scale"] (defScope (top 55)) := ⟨rfl, rfl, rfl, by decide +kernel, rfl, by decide +kernel, by decide +kernel⟩
theorem ok__law_agree (G : Fx fa fn qs K mg) : Cl P w K mg base 3 "_law_agree" 2 f__law_agree := by
  obtain ⟨fd, F⟩ := G.def_ 31 (d := d31) rfl rfl rfl
  refine cl_of F (G.glo 31 rfl) (F.bindsN fun _ _ _ _ _ _ us hl => match us, hl with | [_, _], _ => rfl) (fn_body (N := ["told", "scale", "one"]) (ps := ["told", "scale"]) F sc__law_agree fun cdv A outer s H E hr => ?_)
  have nd := sc__law_agree.nd
  exact (jss_one (js_ret (je_cmp (jo_eq hr.units) (je_fz (jf_lc (own := [("one", 2)]) rfl nd (blkOk_by (by kernel_rfl)) (ji_seq (je_var 0)) (fun _ _ _ _ _ => (jg_name (i := 2) nd)) (fun _ _ _ _ _ => (jts_one (jt_not (jt_val (je_call (ok__law_holds G) hr passL (ja_cons (je_var 1) (ja_cons (je_var 2) ja_nil))))))) (fun _ _ _ _ _ => (je_var 2)))) (je_fz (jf_lst ja_nil)))))
theorem sc_orders : FnScope ["things", "order", "weights"] ["things"] (defScope (top 30)) := ⟨rfl, rfl, rfl, by decide +kernel, rfl, by decide +kernel, by decide +kernel⟩
theorem ok_orders (G : Fx fa fn qs K mg) : Cl P w K mg base 4 "orders" 1 f_orders := by
  obtain ⟨fd, F⟩ := G.def_ 32 (d := d32) rfl rfl rfl
  refine cl_of F (G.glo 32 rfl) (F.bindsN fun _ _ _ _ _ _ us hl => match us, hl with | [_], _ => rfl) (fn_body (N := ["things", "order", "weights"]) (ps := ["things"]) F sc_orders fun cdv A outer s H E hr => ?_)
  have nd := sc_orders.nd
  exact (jss_cons (js_expr (je_call (ok_check_things G) hr ctx_px (ja_cons (je_var 0) ja_nil)))
    (jss_cons (js_if (jt_cmp jo_gtI (je_var 0) je_int) (jss_one (js_raise rfl ctx_tk (G.exc "TooMany" (by decide)))) jss_nil)
    (jss_one (js_ret (je_callTy jc_tuple (ja_cons (je_fz (jf_lc (own := [("order", 1), ("weights", 2)]) rfl nd (blkOk_by (by kernel_rfl)) (ji_itemsN (je_frzD (je_call (ok_found_orders G) hr ctx_px (ja_cons (je_var 0) ja_nil)))) (fun _ _ _ _ _ => (jg_tup rfl (jgs_cons (jg_name (i := 1) nd) (jgs_cons (jg_name (i := 2) nd) jgs_nil)))) (fun _ _ _ _ _ => jts_nil) (fun _ _ _ _ _ => (je_tup (ja_cons (je_var 2) (ja_cons (je_var 1) ja_nil)))))) ja_nil) (fr_tuple G) (by decide +kernel))))))
theorem sc_parted : FnScope ["some", "question", "found", "weights", "answer"] ["some", "question"] (defScope (top 40)) := ⟨rfl, rfl, rfl, by decide +kernel, rfl, by decide +kernel, by decide +kernel⟩
theorem ok_parted (G : Fx fa fn qs K mg) : Cl P w K mg base 3 "parted" 2 f_parted := by
  obtain ⟨fd, F⟩ := G.def_ 33 (d := d33) rfl rfl rfl
  refine cl_of F (G.glo 33 rfl) (F.bindsN fun _ _ _ _ _ _ us hl => match us, hl with | [_, _], _ => rfl) (fn_body (N := ["some", "question", "found", "weights", "answer"]) (ps := ["some", "question"]) F sc_parted fun cdv A outer s H E hr => ?_)
  have nd := sc_parted.nd
  exact (jss_cons (js_set 2 nd je_dct)
    (jss_cons (js_for (vs := [3]) ctx_po rfl (ji_seq (je_var 0)) (jg_name (i := 3) nd) (jss_cons (js_set 4 nd (je_call (ok_answer_of G) hr ctx_px (ja_cons (je_var 1) (ja_cons (je_var 3) ja_nil))))
    (jss_one (js_dput (u1 hr) (je_var 2) (je_var 4) (je_bin jo_add (je_dget2 (u1 hr) (je_var 2) (je_var 4) (je_tup ja_nil)) (je_tup (ja_cons (je_var 3) ja_nil)))))))
    (jss_one (js_ret (je_fz (jf_lc (own := [("answer", 4)]) rfl nd (blkOk_by (by kernel_rfl)) (ji_seq (je_fz (jf_sortK rfl (je_var 2) (fr_sorted G)))) (fun _ _ _ _ _ => (jg_name (i := 4) nd)) (fun _ _ _ _ _ => jts_nil) (fun _ _ _ _ _ => (je_tup (ja_cons (je_var 4) (ja_cons (je_dget (u1 hr) (je_var 2) (je_var 4)) ja_nil))))))))))
theorem sc_fewest_for_r0 : FnScope ["questions", "some", "known", "costs", "question", "parts", "answer", "part"] ["questions", "some", "known"] (defScope (top 41)) := ⟨rfl, rfl, rfl, by decide +kernel, rfl, by decide +kernel, by decide +kernel⟩
theorem ok_fewest_for_r0 (G : Fx fa fn qs K mg) : Cl P w K mg base 1 "fewest_for" 3 f_fewest_for_r0 := by
  obtain ⟨fd, F⟩ := G.def_ 34 (d := d34) rfl rfl rfl
  refine cl_of F (G.glo 34 rfl) (F.bindsN fun _ _ _ _ _ _ us hl => match us, hl with | [_, _, _], _ => rfl) (fn_body (N := ["questions", "some", "known", "costs", "question", "parts", "answer", "part"]) (ps := ["questions", "some", "known"]) F sc_fewest_for_r0 fun cdv A outer s H E hr => ?_)
  have nd := sc_fewest_for_r0.nd
  exact jss_no
theorem sc_fewest_for_r1 : FnScope ["questions", "some", "known", "costs", "question", "parts", "answer", "part"] ["questions", "some", "known"] (defScope (top 41)) := ⟨rfl, rfl, rfl, by decide +kernel, rfl, by decide +kernel, by decide +kernel⟩
theorem ok_fewest_for_r1 (G : Fx fa fn qs K mg) : Cl P w K mg base 4 "fewest_for" 3 f_fewest_for_r1 := by
  obtain ⟨fd, F⟩ := G.def_ 34 (d := d34) rfl rfl rfl
  refine cl_of F (G.glo 34 rfl) (F.bindsN fun _ _ _ _ _ _ us hl => match us, hl with | [_, _, _], _ => rfl) (fn_body (N := ["questions", "some", "known", "costs", "question", "parts", "answer", "part"]) (ps := ["questions", "some", "known"]) F sc_fewest_for_r1 fun cdv A outer s H E hr => ?_)
  have nd := sc_fewest_for_r1.nd
  exact (jss_cons (js_if (jt_cmp (jo_eq hr.units) (je_callB jc_len (ja_cons (je_var 1) ja_nil) (fr_len G) PySem.boot_len) je_int) (jss_one (js_ret je_int)) jss_nil)
    (jss_cons (js_if (jt_cmp (jo_ninN hr.units) (je_var 1) (je_var 2)) (jss_cons (js_set 3 nd (je_ow (jf_lst ja_nil)))
    (jss_cons (js_for (vs := [4]) ctx_po rfl (ji_seq (je_var 0)) (jg_name (i := 4) nd) (jss_cons (js_set 5 nd (je_call (ok_parted G) hr ctx_px (ja_cons (je_var 1) (ja_cons (je_var 4) ja_nil))))
    (jss_one (js_if (jt_cmp jo_gtI (je_callB jc_len (ja_cons (je_var 5) ja_nil) (fr_len G) PySem.boot_len) je_int) (jss_one (js_expr (je_append (je_var 3) (ja_cons (je_bin jo_add je_int (je_callB (jc_max rfl) (ja_cons (je_fz (jf_lc (own := [("answer", 6), ("part", 7)]) rfl nd (blkOk_by (by kernel_rfl)) (ji_seq (je_var 5)) (fun _ _ _ _ _ => (jg_tup rfl (jgs_cons (jg_name (i := 6) nd) (jgs_cons (jg_name (i := 7) nd) jgs_nil)))) (fun _ _ _ _ _ => jts_nil) (fun _ _ _ _ _ => (je_call (ok_fewest_for_r0 G) hr passL (ja_cons (je_var 0) (ja_cons (je_var 7) (ja_cons (je_var 2) ja_nil))))))) ja_nil) (fr_max G) (by decide +kernel))) ja_nil)))) jss_nil))))
    (jss_one (js_asg (vs := []) (je_callB (jc_min rfl) (ja_cons (je_frz (je_var 3)) ja_nil) (fr_min G) (by decide +kernel)) (jg_subN hr.units (je_var 2) (je_var 1)))))) jss_nil)
    (jss_one (js_ret (je_nget hr.units (je_var 2) (je_var 1))))))
theorem sc_fewest_for_r2 : FnScope ["questions", "some", "known", "costs", "question", "parts", "answer", "part"] ["questions", "some", "known"] (defScope (top 41)) := ⟨rfl, rfl, rfl, by decide +kernel, rfl, by decide +kernel, by decide +kernel⟩
theorem ok_fewest_for_r2 (G : Fx fa fn qs K mg) : Cl P w K mg base 5 "fewest_for" 3 f_fewest_for_r2 := by
  obtain ⟨fd, F⟩ := G.def_ 34 (d := d34) rfl rfl rfl
  refine cl_of F (G.glo 34 rfl) (F.bindsN fun _ _ _ _ _ _ us hl => match us, hl with | [_, _, _], _ => rfl) (fn_body (N := ["questions", "some", "known", "costs", "question", "parts", "answer", "part"]) (ps := ["questions", "some", "known"]) F sc_fewest_for_r2 fun cdv A outer s H E hr => ?_)
  have nd := sc_fewest_for_r2.nd
  exact (jss_cons (js_if (jt_cmp (jo_eq hr.units) (je_callB jc_len (ja_cons (je_var 1) ja_nil) (fr_len G) PySem.boot_len) je_int) (jss_one (js_ret je_int)) jss_nil)
    (jss_cons (js_if (jt_cmp (jo_ninN hr.units) (je_var 1) (je_var 2)) (jss_cons (js_set 3 nd (je_ow (jf_lst ja_nil)))
    (jss_cons (js_for (vs := [4]) ctx_po rfl (ji_seq (je_var 0)) (jg_name (i := 4) nd) (jss_cons (js_set 5 nd (je_call (ok_parted G) hr ctx_px (ja_cons (je_var 1) (ja_cons (je_var 4) ja_nil))))
    (jss_one (js_if (jt_cmp jo_gtI (je_callB jc_len (ja_cons (je_var 5) ja_nil) (fr_len G) PySem.boot_len) je_int) (jss_one (js_expr (je_append (je_var 3) (ja_cons (je_bin jo_add je_int (je_callB (jc_max rfl) (ja_cons (je_fz (jf_lc (own := [("answer", 6), ("part", 7)]) rfl nd (blkOk_by (by kernel_rfl)) (ji_seq (je_var 5)) (fun _ _ _ _ _ => (jg_tup rfl (jgs_cons (jg_name (i := 6) nd) (jgs_cons (jg_name (i := 7) nd) jgs_nil)))) (fun _ _ _ _ _ => jts_nil) (fun _ _ _ _ _ => (je_call (ok_fewest_for_r1 G) hr passL (ja_cons (je_var 0) (ja_cons (je_var 7) (ja_cons (je_var 2) ja_nil))))))) ja_nil) (fr_max G) (by decide +kernel))) ja_nil)))) jss_nil))))
    (jss_one (js_asg (vs := []) (je_callB (jc_min rfl) (ja_cons (je_frz (je_var 3)) ja_nil) (fr_min G) (by decide +kernel)) (jg_subN hr.units (je_var 2) (je_var 1)))))) jss_nil)
    (jss_one (js_ret (je_nget hr.units (je_var 2) (je_var 1))))))
theorem sc_fewest_for_r3 : FnScope ["questions", "some", "known", "costs", "question", "parts", "answer", "part"] ["questions", "some", "known"] (defScope (top 41)) := ⟨rfl, rfl, rfl, by decide +kernel, rfl, by decide +kernel, by decide +kernel⟩
theorem ok_fewest_for_r3 (G : Fx fa fn qs K mg) : Cl P w K mg base 6 "fewest_for" 3 f_fewest_for_r3 := by
  obtain ⟨fd, F⟩ := G.def_ 34 (d := d34) rfl rfl rfl
  refine cl_of F (G.glo 34 rfl) (F.bindsN fun _ _ _ _ _ _ us hl => match us, hl with | [_, _, _], _ => rfl) (fn_body (N := ["questions", "some", "known", "costs", "question", "parts", "answer", "part"]) (ps := ["questions", "some", "known"]) F sc_fewest_for_r3 fun cdv A outer s H E hr => ?_)
  have nd := sc_fewest_for_r3.nd
  exact (jss_cons (js_if (jt_cmp (jo_eq hr.units) (je_callB jc_len (ja_cons (je_var 1) ja_nil) (fr_len G) PySem.boot_len) je_int) (jss_one (js_ret je_int)) jss_nil)
    (jss_cons (js_if (jt_cmp (jo_ninN hr.units) (je_var 1) (je_var 2)) (jss_cons (js_set 3 nd (je_ow (jf_lst ja_nil)))
    (jss_cons (js_for (vs := [4]) ctx_po rfl (ji_seq (je_var 0)) (jg_name (i := 4) nd) (jss_cons (js_set 5 nd (je_call (ok_parted G) hr ctx_px (ja_cons (je_var 1) (ja_cons (je_var 4) ja_nil))))
    (jss_one (js_if (jt_cmp jo_gtI (je_callB jc_len (ja_cons (je_var 5) ja_nil) (fr_len G) PySem.boot_len) je_int) (jss_one (js_expr (je_append (je_var 3) (ja_cons (je_bin jo_add je_int (je_callB (jc_max rfl) (ja_cons (je_fz (jf_lc (own := [("answer", 6), ("part", 7)]) rfl nd (blkOk_by (by kernel_rfl)) (ji_seq (je_var 5)) (fun _ _ _ _ _ => (jg_tup rfl (jgs_cons (jg_name (i := 6) nd) (jgs_cons (jg_name (i := 7) nd) jgs_nil)))) (fun _ _ _ _ _ => jts_nil) (fun _ _ _ _ _ => (je_call (ok_fewest_for_r2 G) hr passL (ja_cons (je_var 0) (ja_cons (je_var 7) (ja_cons (je_var 2) ja_nil))))))) ja_nil) (fr_max G) (by decide +kernel))) ja_nil)))) jss_nil))))
    (jss_one (js_asg (vs := []) (je_callB (jc_min rfl) (ja_cons (je_frz (je_var 3)) ja_nil) (fr_min G) (by decide +kernel)) (jg_subN hr.units (je_var 2) (je_var 1)))))) jss_nil)
    (jss_one (js_ret (je_nget hr.units (je_var 2) (je_var 1))))))
theorem sc_fewest_for_r4 : FnScope ["questions", "some", "known", "costs", "question", "parts", "answer", "part"] ["questions", "some", "known"] (defScope (top 41)) := ⟨rfl, rfl, rfl, by decide +kernel, rfl, by decide +kernel, by decide +kernel⟩
theorem ok_fewest_for_r4 (G : Fx fa fn qs K mg) : Cl P w K mg base 7 "fewest_for" 3 f_fewest_for_r4 := by
  obtain ⟨fd, F⟩ := G.def_ 34 (d := d34) rfl rfl rfl
  refine cl_of F (G.glo 34 rfl) (F.bindsN fun _ _ _ _ _ _ us hl => match us, hl with | [_, _, _], _ => rfl) (fn_body (N := ["questions", "some", "known", "costs", "question", "parts", "answer", "part"]) (ps := ["questions", "some", "known"]) F sc_fewest_for_r4 fun cdv A outer s H E hr => ?_)
  have nd := sc_fewest_for_r4.nd
  exact (jss_cons (js_if (jt_cmp (jo_eq hr.units) (je_callB jc_len (ja_cons (je_var 1) ja_nil) (fr_len G) PySem.boot_len) je_int) (jss_one (js_ret je_int)) jss_nil)
    (jss_cons (js_if (jt_cmp (jo_ninN hr.units) (je_var 1) (je_var 2)) (jss_cons (js_set 3 nd (je_ow (jf_lst ja_nil)))
    (jss_cons (js_for (vs := [4]) ctx_po rfl (ji_seq (je_var 0)) (jg_name (i := 4) nd) (jss_cons (js_set 5 nd (je_call (ok_parted G) hr ctx_px (ja_cons (je_var 1) (ja_cons (je_var 4) ja_nil))))
    (jss_one (js_if (jt_cmp jo_gtI (je_callB jc_len (ja_cons (je_var 5) ja_nil) (fr_len G) PySem.boot_len) je_int) (jss_one (js_expr (je_append (je_var 3) (ja_cons (je_bin jo_add je_int (je_callB (jc_max rfl) (ja_cons (je_fz (jf_lc (own := [("answer", 6), ("part", 7)]) rfl nd (blkOk_by (by kernel_rfl)) (ji_seq (je_var 5)) (fun _ _ _ _ _ => (jg_tup rfl (jgs_cons (jg_name (i := 6) nd) (jgs_cons (jg_name (i := 7) nd) jgs_nil)))) (fun _ _ _ _ _ => jts_nil) (fun _ _ _ _ _ => (je_call (ok_fewest_for_r3 G) hr passL (ja_cons (je_var 0) (ja_cons (je_var 7) (ja_cons (je_var 2) ja_nil))))))) ja_nil) (fr_max G) (by decide +kernel))) ja_nil)))) jss_nil))))
    (jss_one (js_asg (vs := []) (je_callB (jc_min rfl) (ja_cons (je_frz (je_var 3)) ja_nil) (fr_min G) (by decide +kernel)) (jg_subN hr.units (je_var 2) (je_var 1)))))) jss_nil)
    (jss_one (js_ret (je_nget hr.units (je_var 2) (je_var 1))))))
theorem sc_fewest_for_r5 : FnScope ["questions", "some", "known", "costs", "question", "parts", "answer", "part"] ["questions", "some", "known"] (defScope (top 41)) := ⟨rfl, rfl, rfl, by decide +kernel, rfl, by decide +kernel, by decide +kernel⟩
theorem ok_fewest_for_r5 (G : Fx fa fn qs K mg) : Cl P w K mg base 8 "fewest_for" 3 f_fewest_for_r5 := by
  obtain ⟨fd, F⟩ := G.def_ 34 (d := d34) rfl rfl rfl
  refine cl_of F (G.glo 34 rfl) (F.bindsN fun _ _ _ _ _ _ us hl => match us, hl with | [_, _, _], _ => rfl) (fn_body (N := ["questions", "some", "known", "costs", "question", "parts", "answer", "part"]) (ps := ["questions", "some", "known"]) F sc_fewest_for_r5 fun cdv A outer s H E hr => ?_)
  have nd := sc_fewest_for_r5.nd
  exact (jss_cons (js_if (jt_cmp (jo_eq hr.units) (je_callB jc_len (ja_cons (je_var 1) ja_nil) (fr_len G) PySem.boot_len) je_int) (jss_one (js_ret je_int)) jss_nil)
    (jss_cons (js_if (jt_cmp (jo_ninN hr.units) (je_var 1) (je_var 2)) (jss_cons (js_set 3 nd (je_ow (jf_lst ja_nil)))
    (jss_cons (js_for (vs := [4]) ctx_po rfl (ji_seq (je_var 0)) (jg_name (i := 4) nd) (jss_cons (js_set 5 nd (je_call (ok_parted G) hr ctx_px (ja_cons (je_var 1) (ja_cons (je_var 4) ja_nil))))
    (jss_one (js_if (jt_cmp jo_gtI (je_callB jc_len (ja_cons (je_var 5) ja_nil) (fr_len G) PySem.boot_len) je_int) (jss_one (js_expr (je_append (je_var 3) (ja_cons (je_bin jo_add je_int (je_callB (jc_max rfl) (ja_cons (je_fz (jf_lc (own := [("answer", 6), ("part", 7)]) rfl nd (blkOk_by (by kernel_rfl)) (ji_seq (je_var 5)) (fun _ _ _ _ _ => (jg_tup rfl (jgs_cons (jg_name (i := 6) nd) (jgs_cons (jg_name (i := 7) nd) jgs_nil)))) (fun _ _ _ _ _ => jts_nil) (fun _ _ _ _ _ => (je_call (ok_fewest_for_r4 G) hr passL (ja_cons (je_var 0) (ja_cons (je_var 7) (ja_cons (je_var 2) ja_nil))))))) ja_nil) (fr_max G) (by decide +kernel))) ja_nil)))) jss_nil))))
    (jss_one (js_asg (vs := []) (je_callB (jc_min rfl) (ja_cons (je_frz (je_var 3)) ja_nil) (fr_min G) (by decide +kernel)) (jg_subN hr.units (je_var 2) (je_var 1)))))) jss_nil)
    (jss_one (js_ret (je_nget hr.units (je_var 2) (je_var 1))))))
theorem sc_fewest_for_r6 : FnScope ["questions", "some", "known", "costs", "question", "parts", "answer", "part"] ["questions", "some", "known"] (defScope (top 41)) := ⟨rfl, rfl, rfl, by decide +kernel, rfl, by decide +kernel, by decide +kernel⟩
theorem ok_fewest_for_r6 (G : Fx fa fn qs K mg) : Cl P w K mg base 9 "fewest_for" 3 f_fewest_for_r6 := by
  obtain ⟨fd, F⟩ := G.def_ 34 (d := d34) rfl rfl rfl
  refine cl_of F (G.glo 34 rfl) (F.bindsN fun _ _ _ _ _ _ us hl => match us, hl with | [_, _, _], _ => rfl) (fn_body (N := ["questions", "some", "known", "costs", "question", "parts", "answer", "part"]) (ps := ["questions", "some", "known"]) F sc_fewest_for_r6 fun cdv A outer s H E hr => ?_)
  have nd := sc_fewest_for_r6.nd
  exact (jss_cons (js_if (jt_cmp (jo_eq hr.units) (je_callB jc_len (ja_cons (je_var 1) ja_nil) (fr_len G) PySem.boot_len) je_int) (jss_one (js_ret je_int)) jss_nil)
    (jss_cons (js_if (jt_cmp (jo_ninN hr.units) (je_var 1) (je_var 2)) (jss_cons (js_set 3 nd (je_ow (jf_lst ja_nil)))
    (jss_cons (js_for (vs := [4]) ctx_po rfl (ji_seq (je_var 0)) (jg_name (i := 4) nd) (jss_cons (js_set 5 nd (je_call (ok_parted G) hr ctx_px (ja_cons (je_var 1) (ja_cons (je_var 4) ja_nil))))
    (jss_one (js_if (jt_cmp jo_gtI (je_callB jc_len (ja_cons (je_var 5) ja_nil) (fr_len G) PySem.boot_len) je_int) (jss_one (js_expr (je_append (je_var 3) (ja_cons (je_bin jo_add je_int (je_callB (jc_max rfl) (ja_cons (je_fz (jf_lc (own := [("answer", 6), ("part", 7)]) rfl nd (blkOk_by (by kernel_rfl)) (ji_seq (je_var 5)) (fun _ _ _ _ _ => (jg_tup rfl (jgs_cons (jg_name (i := 6) nd) (jgs_cons (jg_name (i := 7) nd) jgs_nil)))) (fun _ _ _ _ _ => jts_nil) (fun _ _ _ _ _ => (je_call (ok_fewest_for_r5 G) hr passL (ja_cons (je_var 0) (ja_cons (je_var 7) (ja_cons (je_var 2) ja_nil))))))) ja_nil) (fr_max G) (by decide +kernel))) ja_nil)))) jss_nil))))
    (jss_one (js_asg (vs := []) (je_callB (jc_min rfl) (ja_cons (je_frz (je_var 3)) ja_nil) (fr_min G) (by decide +kernel)) (jg_subN hr.units (je_var 2) (je_var 1)))))) jss_nil)
    (jss_one (js_ret (je_nget hr.units (je_var 2) (je_var 1))))))
theorem sc_fewest_for : FnScope ["questions", "some", "known", "costs", "question", "parts", "answer", "part"] ["questions", "some", "known"] (defScope (top 41)) := ⟨rfl, rfl, rfl, by decide +kernel, rfl, by decide +kernel, by decide +kernel⟩
theorem ok_fewest_for (G : Fx fa fn qs K mg) : Cl P w K mg base 10 "fewest_for" 3 f_fewest_for := by
  obtain ⟨fd, F⟩ := G.def_ 34 (d := d34) rfl rfl rfl
  refine cl_of F (G.glo 34 rfl) (F.bindsN fun _ _ _ _ _ _ us hl => match us, hl with | [_, _, _], _ => rfl) (fn_body (N := ["questions", "some", "known", "costs", "question", "parts", "answer", "part"]) (ps := ["questions", "some", "known"]) F sc_fewest_for fun cdv A outer s H E hr => ?_)
  have nd := sc_fewest_for.nd
  exact (jss_cons (js_if (jt_cmp (jo_eq hr.units) (je_callB jc_len (ja_cons (je_var 1) ja_nil) (fr_len G) PySem.boot_len) je_int) (jss_one (js_ret je_int)) jss_nil)
    (jss_cons (js_if (jt_cmp (jo_ninN hr.units) (je_var 1) (je_var 2)) (jss_cons (js_set 3 nd (je_ow (jf_lst ja_nil)))
    (jss_cons (js_for (vs := [4]) ctx_po rfl (ji_seq (je_var 0)) (jg_name (i := 4) nd) (jss_cons (js_set 5 nd (je_call (ok_parted G) hr ctx_px (ja_cons (je_var 1) (ja_cons (je_var 4) ja_nil))))
    (jss_one (js_if (jt_cmp jo_gtI (je_callB jc_len (ja_cons (je_var 5) ja_nil) (fr_len G) PySem.boot_len) je_int) (jss_one (js_expr (je_append (je_var 3) (ja_cons (je_bin jo_add je_int (je_callB (jc_max rfl) (ja_cons (je_fz (jf_lc (own := [("answer", 6), ("part", 7)]) rfl nd (blkOk_by (by kernel_rfl)) (ji_seq (je_var 5)) (fun _ _ _ _ _ => (jg_tup rfl (jgs_cons (jg_name (i := 6) nd) (jgs_cons (jg_name (i := 7) nd) jgs_nil)))) (fun _ _ _ _ _ => jts_nil) (fun _ _ _ _ _ => (je_call (ok_fewest_for_r6 G) hr passL (ja_cons (je_var 0) (ja_cons (je_var 7) (ja_cons (je_var 2) ja_nil))))))) ja_nil) (fr_max G) (by decide +kernel))) ja_nil)))) jss_nil))))
    (jss_one (js_asg (vs := []) (je_callB (jc_min rfl) (ja_cons (je_frz (je_var 3)) ja_nil) (fr_min G) (by decide +kernel)) (jg_subN hr.units (je_var 2) (je_var 1)))))) jss_nil)
    (jss_one (js_ret (je_nget hr.units (je_var 2) (je_var 1))))))
theorem sc_fewest_questions : FnScope ["things", "told", "some"] ["things", "told"] (defScope (top 42)) := ⟨rfl, rfl, rfl, by decide +kernel, rfl, by decide +kernel, by decide +kernel⟩
theorem ok_fewest_questions (G : Fx fa fn qs K mg) : Cl P w K mg base 11 "fewest_questions" 2 f_fewest_questions := by
  obtain ⟨fd, F⟩ := G.def_ 35 (d := d35) rfl rfl rfl
  refine cl_of F (G.glo 35 rfl) (F.bindsN fun _ _ _ _ _ _ us hl => match us, hl with | [_, _], _ => rfl) (fn_body (N := ["things", "told", "some"]) (ps := ["things", "told"]) F sc_fewest_questions fun cdv A outer s H E hr => ?_)
  have nd := sc_fewest_questions.nd
  exact (jss_cons (js_set 2 nd (je_call (ok_weights_left G) hr ctx_px (ja_cons (je_var 0) (ja_cons (je_var 1) ja_nil))))
    (jss_one (js_ret (je_call (ok_fewest_for G) hr ctx_px (ja_cons (je_call (ok_all_questions G) hr ctx_px (ja_cons (je_var 0) ja_nil)) (ja_cons (je_var 2) (ja_cons je_dcn ja_nil)))))))
theorem sc_plan_for_r0 : FnScope ["questions", "some", "known", "least", "question", "parts", "answer", "part"] ["questions", "some", "known"] (defScope (top 43)) := ⟨rfl, rfl, rfl, by decide +kernel, rfl, by decide +kernel, by decide +kernel⟩
theorem ok_plan_for_r0 (G : Fx fa fn qs K mg) : Cl P w K mg base 1 "plan_for" 3 f_plan_for_r0 := by
  obtain ⟨fd, F⟩ := G.def_ 36 (d := d36) rfl rfl rfl
  refine cl_of F (G.glo 36 rfl) (F.bindsN fun _ _ _ _ _ _ us hl => match us, hl with | [_, _, _], _ => rfl) (fn_body (N := ["questions", "some", "known", "least", "question", "parts", "answer", "part"]) (ps := ["questions", "some", "known"]) F sc_plan_for_r0 fun cdv A outer s H E hr => ?_)
  have nd := sc_plan_for_r0.nd
  exact jss_no
theorem sc_plan_for_r1 : FnScope ["questions", "some", "known", "least", "question", "parts", "answer", "part"] ["questions", "some", "known"] (defScope (top 43)) := ⟨rfl, rfl, rfl, by decide +kernel, rfl, by decide +kernel, by decide +kernel⟩
theorem ok_plan_for_r1 (G : Fx fa fn qs K mg) : Cl P w K mg base 11 "plan_for" 3 f_plan_for_r1 := by
  obtain ⟨fd, F⟩ := G.def_ 36 (d := d36) rfl rfl rfl
  refine cl_of F (G.glo 36 rfl) (F.bindsN fun _ _ _ _ _ _ us hl => match us, hl with | [_, _, _], _ => rfl) (fn_body (N := ["questions", "some", "known", "least", "question", "parts", "answer", "part"]) (ps := ["questions", "some", "known"]) F sc_plan_for_r1 fun cdv A outer s H E hr => ?_)
  have nd := sc_plan_for_r1.nd
  exact (jss_cons (js_set 3 nd (je_call (ok_fewest_for G) hr ctx_px (ja_cons (je_var 0) (ja_cons (je_var 1) (ja_cons (je_var 2) ja_nil)))))
    (jss_cons (js_if (jt_cmp (jo_eq hr.units) (je_var 3) je_int) (jss_one (js_ret je_non)) jss_nil)
    (jss_cons (js_for (vs := [4]) ctx_po rfl (ji_seq (je_var 0)) (jg_name (i := 4) nd) (jss_cons (js_set 5 nd (je_call (ok_parted G) hr ctx_px (ja_cons (je_var 1) (ja_cons (je_var 4) ja_nil))))
    (jss_one (js_if (JW.jt (jw_and (jt_cmp jo_gtI (je_callB jc_len (ja_cons (je_var 5) ja_nil) (fr_len G) PySem.boot_len) je_int) (jw_and1 (jt_cmp (jo_eq hr.units) (je_bin jo_add je_int (je_callB (jc_max rfl) (ja_cons (je_fz (jf_lc (own := [("answer", 6), ("part", 7)]) rfl nd (blkOk_by (by kernel_rfl)) (ji_seq (je_var 5)) (fun _ _ _ _ _ => (jg_tup rfl (jgs_cons (jg_name (i := 6) nd) (jgs_cons (jg_name (i := 7) nd) jgs_nil)))) (fun _ _ _ _ _ => jts_nil) (fun _ _ _ _ _ => (je_call (ok_fewest_for G) hr passL (ja_cons (je_var 0) (ja_cons (je_var 7) (ja_cons (je_var 2) ja_nil))))))) ja_nil) (fr_max G) (by decide +kernel))) (je_var 3))))) (jss_one (js_ret (je_tup (ja_cons (je_var 4) (ja_cons (je_callTy jc_tuple (ja_cons (je_fz (jf_lc (own := [("answer", 6), ("part", 7)]) rfl nd (blkOk_by (by kernel_rfl)) (ji_seq (je_var 5)) (fun _ _ _ _ _ => (jg_tup rfl (jgs_cons (jg_name (i := 6) nd) (jgs_cons (jg_name (i := 7) nd) jgs_nil)))) (fun _ _ _ _ _ => jts_nil) (fun _ _ _ _ _ => (je_tup (ja_cons (je_var 6) (ja_cons (je_call (ok_plan_for_r0 G) hr passL (ja_cons (je_var 0) (ja_cons (je_var 7) (ja_cons (je_var 2) ja_nil)))) ja_nil)))))) ja_nil) (fr_tuple G) (by decide +kernel)) ja_nil))))) jss_nil))))
    (jss_one (js_ret je_non)))))
theorem sc_plan_for_r2 : FnScope ["questions", "some", "known", "least", "question", "parts", "answer", "part"] ["questions", "some", "known"] (defScope (top 43)) := ⟨rfl, rfl, rfl, by decide +kernel, rfl, by decide +kernel, by decide +kernel⟩
theorem ok_plan_for_r2 (G : Fx fa fn qs K mg) : Cl P w K mg base 12 "plan_for" 3 f_plan_for_r2 := by
  obtain ⟨fd, F⟩ := G.def_ 36 (d := d36) rfl rfl rfl
  refine cl_of F (G.glo 36 rfl) (F.bindsN fun _ _ _ _ _ _ us hl => match us, hl with | [_, _, _], _ => rfl) (fn_body (N := ["questions", "some", "known", "least", "question", "parts", "answer", "part"]) (ps := ["questions", "some", "known"]) F sc_plan_for_r2 fun cdv A outer s H E hr => ?_)
  have nd := sc_plan_for_r2.nd
  exact (jss_cons (js_set 3 nd (je_call (ok_fewest_for G) hr ctx_px (ja_cons (je_var 0) (ja_cons (je_var 1) (ja_cons (je_var 2) ja_nil)))))
    (jss_cons (js_if (jt_cmp (jo_eq hr.units) (je_var 3) je_int) (jss_one (js_ret je_non)) jss_nil)
    (jss_cons (js_for (vs := [4]) ctx_po rfl (ji_seq (je_var 0)) (jg_name (i := 4) nd) (jss_cons (js_set 5 nd (je_call (ok_parted G) hr ctx_px (ja_cons (je_var 1) (ja_cons (je_var 4) ja_nil))))
    (jss_one (js_if (JW.jt (jw_and (jt_cmp jo_gtI (je_callB jc_len (ja_cons (je_var 5) ja_nil) (fr_len G) PySem.boot_len) je_int) (jw_and1 (jt_cmp (jo_eq hr.units) (je_bin jo_add je_int (je_callB (jc_max rfl) (ja_cons (je_fz (jf_lc (own := [("answer", 6), ("part", 7)]) rfl nd (blkOk_by (by kernel_rfl)) (ji_seq (je_var 5)) (fun _ _ _ _ _ => (jg_tup rfl (jgs_cons (jg_name (i := 6) nd) (jgs_cons (jg_name (i := 7) nd) jgs_nil)))) (fun _ _ _ _ _ => jts_nil) (fun _ _ _ _ _ => (je_call (ok_fewest_for G) hr passL (ja_cons (je_var 0) (ja_cons (je_var 7) (ja_cons (je_var 2) ja_nil))))))) ja_nil) (fr_max G) (by decide +kernel))) (je_var 3))))) (jss_one (js_ret (je_tup (ja_cons (je_var 4) (ja_cons (je_callTy jc_tuple (ja_cons (je_fz (jf_lc (own := [("answer", 6), ("part", 7)]) rfl nd (blkOk_by (by kernel_rfl)) (ji_seq (je_var 5)) (fun _ _ _ _ _ => (jg_tup rfl (jgs_cons (jg_name (i := 6) nd) (jgs_cons (jg_name (i := 7) nd) jgs_nil)))) (fun _ _ _ _ _ => jts_nil) (fun _ _ _ _ _ => (je_tup (ja_cons (je_var 6) (ja_cons (je_call (ok_plan_for_r1 G) hr passL (ja_cons (je_var 0) (ja_cons (je_var 7) (ja_cons (je_var 2) ja_nil)))) ja_nil)))))) ja_nil) (fr_tuple G) (by decide +kernel)) ja_nil))))) jss_nil))))
    (jss_one (js_ret je_non)))))
theorem sc_plan_for_r3 : FnScope ["questions", "some", "known", "least", "question", "parts", "answer", "part"] ["questions", "some", "known"] (defScope (top 43)) := ⟨rfl, rfl, rfl, by decide +kernel, rfl, by decide +kernel, by decide +kernel⟩
theorem ok_plan_for_r3 (G : Fx fa fn qs K mg) : Cl P w K mg base 13 "plan_for" 3 f_plan_for_r3 := by
  obtain ⟨fd, F⟩ := G.def_ 36 (d := d36) rfl rfl rfl
  refine cl_of F (G.glo 36 rfl) (F.bindsN fun _ _ _ _ _ _ us hl => match us, hl with | [_, _, _], _ => rfl) (fn_body (N := ["questions", "some", "known", "least", "question", "parts", "answer", "part"]) (ps := ["questions", "some", "known"]) F sc_plan_for_r3 fun cdv A outer s H E hr => ?_)
  have nd := sc_plan_for_r3.nd
  exact (jss_cons (js_set 3 nd (je_call (ok_fewest_for G) hr ctx_px (ja_cons (je_var 0) (ja_cons (je_var 1) (ja_cons (je_var 2) ja_nil)))))
    (jss_cons (js_if (jt_cmp (jo_eq hr.units) (je_var 3) je_int) (jss_one (js_ret je_non)) jss_nil)
    (jss_cons (js_for (vs := [4]) ctx_po rfl (ji_seq (je_var 0)) (jg_name (i := 4) nd) (jss_cons (js_set 5 nd (je_call (ok_parted G) hr ctx_px (ja_cons (je_var 1) (ja_cons (je_var 4) ja_nil))))
    (jss_one (js_if (JW.jt (jw_and (jt_cmp jo_gtI (je_callB jc_len (ja_cons (je_var 5) ja_nil) (fr_len G) PySem.boot_len) je_int) (jw_and1 (jt_cmp (jo_eq hr.units) (je_bin jo_add je_int (je_callB (jc_max rfl) (ja_cons (je_fz (jf_lc (own := [("answer", 6), ("part", 7)]) rfl nd (blkOk_by (by kernel_rfl)) (ji_seq (je_var 5)) (fun _ _ _ _ _ => (jg_tup rfl (jgs_cons (jg_name (i := 6) nd) (jgs_cons (jg_name (i := 7) nd) jgs_nil)))) (fun _ _ _ _ _ => jts_nil) (fun _ _ _ _ _ => (je_call (ok_fewest_for G) hr passL (ja_cons (je_var 0) (ja_cons (je_var 7) (ja_cons (je_var 2) ja_nil))))))) ja_nil) (fr_max G) (by decide +kernel))) (je_var 3))))) (jss_one (js_ret (je_tup (ja_cons (je_var 4) (ja_cons (je_callTy jc_tuple (ja_cons (je_fz (jf_lc (own := [("answer", 6), ("part", 7)]) rfl nd (blkOk_by (by kernel_rfl)) (ji_seq (je_var 5)) (fun _ _ _ _ _ => (jg_tup rfl (jgs_cons (jg_name (i := 6) nd) (jgs_cons (jg_name (i := 7) nd) jgs_nil)))) (fun _ _ _ _ _ => jts_nil) (fun _ _ _ _ _ => (je_tup (ja_cons (je_var 6) (ja_cons (je_call (ok_plan_for_r2 G) hr passL (ja_cons (je_var 0) (ja_cons (je_var 7) (ja_cons (je_var 2) ja_nil)))) ja_nil)))))) ja_nil) (fr_tuple G) (by decide +kernel)) ja_nil))))) jss_nil))))
    (jss_one (js_ret je_non)))))
theorem sc_plan_for_r4 : FnScope ["questions", "some", "known", "least", "question", "parts", "answer", "part"] ["questions", "some", "known"] (defScope (top 43)) := ⟨rfl, rfl, rfl, by decide +kernel, rfl, by decide +kernel, by decide +kernel⟩
theorem ok_plan_for_r4 (G : Fx fa fn qs K mg) : Cl P w K mg base 14 "plan_for" 3 f_plan_for_r4 := by
  obtain ⟨fd, F⟩ := G.def_ 36 (d := d36) rfl rfl rfl
  refine cl_of F (G.glo 36 rfl) (F.bindsN fun _ _ _ _ _ _ us hl => match us, hl with | [_, _, _], _ => rfl) (fn_body (N := ["questions", "some", "known", "least", "question", "parts", "answer", "part"]) (ps := ["questions", "some", "known"]) F sc_plan_for_r4 fun cdv A outer s H E hr => ?_)
  have nd := sc_plan_for_r4.nd
  exact (jss_cons (js_set 3 nd (je_call (ok_fewest_for G) hr ctx_px (ja_cons (je_var 0) (ja_cons (je_var 1) (ja_cons (je_var 2) ja_nil)))))
    (jss_cons (js_if (jt_cmp (jo_eq hr.units) (je_var 3) je_int) (jss_one (js_ret je_non)) jss_nil)
    (jss_cons (js_for (vs := [4]) ctx_po rfl (ji_seq (je_var 0)) (jg_name (i := 4) nd) (jss_cons (js_set 5 nd (je_call (ok_parted G) hr ctx_px (ja_cons (je_var 1) (ja_cons (je_var 4) ja_nil))))
    (jss_one (js_if (JW.jt (jw_and (jt_cmp jo_gtI (je_callB jc_len (ja_cons (je_var 5) ja_nil) (fr_len G) PySem.boot_len) je_int) (jw_and1 (jt_cmp (jo_eq hr.units) (je_bin jo_add je_int (je_callB (jc_max rfl) (ja_cons (je_fz (jf_lc (own := [("answer", 6), ("part", 7)]) rfl nd (blkOk_by (by kernel_rfl)) (ji_seq (je_var 5)) (fun _ _ _ _ _ => (jg_tup rfl (jgs_cons (jg_name (i := 6) nd) (jgs_cons (jg_name (i := 7) nd) jgs_nil)))) (fun _ _ _ _ _ => jts_nil) (fun _ _ _ _ _ => (je_call (ok_fewest_for G) hr passL (ja_cons (je_var 0) (ja_cons (je_var 7) (ja_cons (je_var 2) ja_nil))))))) ja_nil) (fr_max G) (by decide +kernel))) (je_var 3))))) (jss_one (js_ret (je_tup (ja_cons (je_var 4) (ja_cons (je_callTy jc_tuple (ja_cons (je_fz (jf_lc (own := [("answer", 6), ("part", 7)]) rfl nd (blkOk_by (by kernel_rfl)) (ji_seq (je_var 5)) (fun _ _ _ _ _ => (jg_tup rfl (jgs_cons (jg_name (i := 6) nd) (jgs_cons (jg_name (i := 7) nd) jgs_nil)))) (fun _ _ _ _ _ => jts_nil) (fun _ _ _ _ _ => (je_tup (ja_cons (je_var 6) (ja_cons (je_call (ok_plan_for_r3 G) hr passL (ja_cons (je_var 0) (ja_cons (je_var 7) (ja_cons (je_var 2) ja_nil)))) ja_nil)))))) ja_nil) (fr_tuple G) (by decide +kernel)) ja_nil))))) jss_nil))))
    (jss_one (js_ret je_non)))))
theorem sc_plan_for_r5 : FnScope ["questions", "some", "known", "least", "question", "parts", "answer", "part"] ["questions", "some", "known"] (defScope (top 43)) := ⟨rfl, rfl, rfl, by decide +kernel, rfl, by decide +kernel, by decide +kernel⟩
theorem ok_plan_for_r5 (G : Fx fa fn qs K mg) : Cl P w K mg base 15 "plan_for" 3 f_plan_for_r5 := by
  obtain ⟨fd, F⟩ := G.def_ 36 (d := d36) rfl rfl rfl
  refine cl_of F (G.glo 36 rfl) (F.bindsN fun _ _ _ _ _ _ us hl => match us, hl with | [_, _, _], _ => rfl) (fn_body (N := ["questions", "some", "known", "least", "question", "parts", "answer", "part"]) (ps := ["questions", "some", "known"]) F sc_plan_for_r5 fun cdv A outer s H E hr => ?_)
  have nd := sc_plan_for_r5.nd
  exact (jss_cons (js_set 3 nd (je_call (ok_fewest_for G) hr ctx_px (ja_cons (je_var 0) (ja_cons (je_var 1) (ja_cons (je_var 2) ja_nil)))))
    (jss_cons (js_if (jt_cmp (jo_eq hr.units) (je_var 3) je_int) (jss_one (js_ret je_non)) jss_nil)
    (jss_cons (js_for (vs := [4]) ctx_po rfl (ji_seq (je_var 0)) (jg_name (i := 4) nd) (jss_cons (js_set 5 nd (je_call (ok_parted G) hr ctx_px (ja_cons (je_var 1) (ja_cons (je_var 4) ja_nil))))
    (jss_one (js_if (JW.jt (jw_and (jt_cmp jo_gtI (je_callB jc_len (ja_cons (je_var 5) ja_nil) (fr_len G) PySem.boot_len) je_int) (jw_and1 (jt_cmp (jo_eq hr.units) (je_bin jo_add je_int (je_callB (jc_max rfl) (ja_cons (je_fz (jf_lc (own := [("answer", 6), ("part", 7)]) rfl nd (blkOk_by (by kernel_rfl)) (ji_seq (je_var 5)) (fun _ _ _ _ _ => (jg_tup rfl (jgs_cons (jg_name (i := 6) nd) (jgs_cons (jg_name (i := 7) nd) jgs_nil)))) (fun _ _ _ _ _ => jts_nil) (fun _ _ _ _ _ => (je_call (ok_fewest_for G) hr passL (ja_cons (je_var 0) (ja_cons (je_var 7) (ja_cons (je_var 2) ja_nil))))))) ja_nil) (fr_max G) (by decide +kernel))) (je_var 3))))) (jss_one (js_ret (je_tup (ja_cons (je_var 4) (ja_cons (je_callTy jc_tuple (ja_cons (je_fz (jf_lc (own := [("answer", 6), ("part", 7)]) rfl nd (blkOk_by (by kernel_rfl)) (ji_seq (je_var 5)) (fun _ _ _ _ _ => (jg_tup rfl (jgs_cons (jg_name (i := 6) nd) (jgs_cons (jg_name (i := 7) nd) jgs_nil)))) (fun _ _ _ _ _ => jts_nil) (fun _ _ _ _ _ => (je_tup (ja_cons (je_var 6) (ja_cons (je_call (ok_plan_for_r4 G) hr passL (ja_cons (je_var 0) (ja_cons (je_var 7) (ja_cons (je_var 2) ja_nil)))) ja_nil)))))) ja_nil) (fr_tuple G) (by decide +kernel)) ja_nil))))) jss_nil))))
    (jss_one (js_ret je_non)))))
theorem sc_plan_for_r6 : FnScope ["questions", "some", "known", "least", "question", "parts", "answer", "part"] ["questions", "some", "known"] (defScope (top 43)) := ⟨rfl, rfl, rfl, by decide +kernel, rfl, by decide +kernel, by decide +kernel⟩
theorem ok_plan_for_r6 (G : Fx fa fn qs K mg) : Cl P w K mg base 16 "plan_for" 3 f_plan_for_r6 := by
  obtain ⟨fd, F⟩ := G.def_ 36 (d := d36) rfl rfl rfl
  refine cl_of F (G.glo 36 rfl) (F.bindsN fun _ _ _ _ _ _ us hl => match us, hl with | [_, _, _], _ => rfl) (fn_body (N := ["questions", "some", "known", "least", "question", "parts", "answer", "part"]) (ps := ["questions", "some", "known"]) F sc_plan_for_r6 fun cdv A outer s H E hr => ?_)
  have nd := sc_plan_for_r6.nd
  exact (jss_cons (js_set 3 nd (je_call (ok_fewest_for G) hr ctx_px (ja_cons (je_var 0) (ja_cons (je_var 1) (ja_cons (je_var 2) ja_nil)))))
    (jss_cons (js_if (jt_cmp (jo_eq hr.units) (je_var 3) je_int) (jss_one (js_ret je_non)) jss_nil)
    (jss_cons (js_for (vs := [4]) ctx_po rfl (ji_seq (je_var 0)) (jg_name (i := 4) nd) (jss_cons (js_set 5 nd (je_call (ok_parted G) hr ctx_px (ja_cons (je_var 1) (ja_cons (je_var 4) ja_nil))))
    (jss_one (js_if (JW.jt (jw_and (jt_cmp jo_gtI (je_callB jc_len (ja_cons (je_var 5) ja_nil) (fr_len G) PySem.boot_len) je_int) (jw_and1 (jt_cmp (jo_eq hr.units) (je_bin jo_add je_int (je_callB (jc_max rfl) (ja_cons (je_fz (jf_lc (own := [("answer", 6), ("part", 7)]) rfl nd (blkOk_by (by kernel_rfl)) (ji_seq (je_var 5)) (fun _ _ _ _ _ => (jg_tup rfl (jgs_cons (jg_name (i := 6) nd) (jgs_cons (jg_name (i := 7) nd) jgs_nil)))) (fun _ _ _ _ _ => jts_nil) (fun _ _ _ _ _ => (je_call (ok_fewest_for G) hr passL (ja_cons (je_var 0) (ja_cons (je_var 7) (ja_cons (je_var 2) ja_nil))))))) ja_nil) (fr_max G) (by decide +kernel))) (je_var 3))))) (jss_one (js_ret (je_tup (ja_cons (je_var 4) (ja_cons (je_callTy jc_tuple (ja_cons (je_fz (jf_lc (own := [("answer", 6), ("part", 7)]) rfl nd (blkOk_by (by kernel_rfl)) (ji_seq (je_var 5)) (fun _ _ _ _ _ => (jg_tup rfl (jgs_cons (jg_name (i := 6) nd) (jgs_cons (jg_name (i := 7) nd) jgs_nil)))) (fun _ _ _ _ _ => jts_nil) (fun _ _ _ _ _ => (je_tup (ja_cons (je_var 6) (ja_cons (je_call (ok_plan_for_r5 G) hr passL (ja_cons (je_var 0) (ja_cons (je_var 7) (ja_cons (je_var 2) ja_nil)))) ja_nil)))))) ja_nil) (fr_tuple G) (by decide +kernel)) ja_nil))))) jss_nil))))
    (jss_one (js_ret je_non)))))
theorem sc_plan_for : FnScope ["questions", "some", "known", "least", "question", "parts", "answer", "part"] ["questions", "some", "known"] (defScope (top 43)) := ⟨rfl, rfl, rfl, by decide +kernel, rfl, by decide +kernel, by decide +kernel⟩
theorem ok_plan_for (G : Fx fa fn qs K mg) : Cl P w K mg base 17 "plan_for" 3 f_plan_for := by
  obtain ⟨fd, F⟩ := G.def_ 36 (d := d36) rfl rfl rfl
  refine cl_of F (G.glo 36 rfl) (F.bindsN fun _ _ _ _ _ _ us hl => match us, hl with | [_, _, _], _ => rfl) (fn_body (N := ["questions", "some", "known", "least", "question", "parts", "answer", "part"]) (ps := ["questions", "some", "known"]) F sc_plan_for fun cdv A outer s H E hr => ?_)
  have nd := sc_plan_for.nd
  exact (jss_cons (js_set 3 nd (je_call (ok_fewest_for G) hr ctx_px (ja_cons (je_var 0) (ja_cons (je_var 1) (ja_cons (je_var 2) ja_nil)))))
    (jss_cons (js_if (jt_cmp (jo_eq hr.units) (je_var 3) je_int) (jss_one (js_ret je_non)) jss_nil)
    (jss_cons (js_for (vs := [4]) ctx_po rfl (ji_seq (je_var 0)) (jg_name (i := 4) nd) (jss_cons (js_set 5 nd (je_call (ok_parted G) hr ctx_px (ja_cons (je_var 1) (ja_cons (je_var 4) ja_nil))))
    (jss_one (js_if (JW.jt (jw_and (jt_cmp jo_gtI (je_callB jc_len (ja_cons (je_var 5) ja_nil) (fr_len G) PySem.boot_len) je_int) (jw_and1 (jt_cmp (jo_eq hr.units) (je_bin jo_add je_int (je_callB (jc_max rfl) (ja_cons (je_fz (jf_lc (own := [("answer", 6), ("part", 7)]) rfl nd (blkOk_by (by kernel_rfl)) (ji_seq (je_var 5)) (fun _ _ _ _ _ => (jg_tup rfl (jgs_cons (jg_name (i := 6) nd) (jgs_cons (jg_name (i := 7) nd) jgs_nil)))) (fun _ _ _ _ _ => jts_nil) (fun _ _ _ _ _ => (je_call (ok_fewest_for G) hr passL (ja_cons (je_var 0) (ja_cons (je_var 7) (ja_cons (je_var 2) ja_nil))))))) ja_nil) (fr_max G) (by decide +kernel))) (je_var 3))))) (jss_one (js_ret (je_tup (ja_cons (je_var 4) (ja_cons (je_callTy jc_tuple (ja_cons (je_fz (jf_lc (own := [("answer", 6), ("part", 7)]) rfl nd (blkOk_by (by kernel_rfl)) (ji_seq (je_var 5)) (fun _ _ _ _ _ => (jg_tup rfl (jgs_cons (jg_name (i := 6) nd) (jgs_cons (jg_name (i := 7) nd) jgs_nil)))) (fun _ _ _ _ _ => jts_nil) (fun _ _ _ _ _ => (je_tup (ja_cons (je_var 6) (ja_cons (je_call (ok_plan_for_r6 G) hr passL (ja_cons (je_var 0) (ja_cons (je_var 7) (ja_cons (je_var 2) ja_nil)))) ja_nil)))))) ja_nil) (fr_tuple G) (by decide +kernel)) ja_nil))))) jss_nil))))
    (jss_one (js_ret je_non)))))
theorem sc_question_plan : FnScope ["things", "told", "some"] ["things", "told"] (defScope (top 44)) := ⟨rfl, rfl, rfl, by decide +kernel, rfl, by decide +kernel, by decide +kernel⟩
theorem ok_question_plan (G : Fx fa fn qs K mg) : Cl P w K mg base 18 "question_plan" 2 f_question_plan := by
  obtain ⟨fd, F⟩ := G.def_ 37 (d := d37) rfl rfl rfl
  refine cl_of F (G.glo 37 rfl) (F.bindsN fun _ _ _ _ _ _ us hl => match us, hl with | [_, _], _ => rfl) (fn_body (N := ["things", "told", "some"]) (ps := ["things", "told"]) F sc_question_plan fun cdv A outer s H E hr => ?_)
  have nd := sc_question_plan.nd
  exact (jss_cons (js_set 2 nd (je_call (ok_weights_left G) hr ctx_px (ja_cons (je_var 0) (ja_cons (je_var 1) ja_nil))))
    (jss_one (js_ret (je_call (ok_plan_for G) hr ctx_px (ja_cons (je_call (ok_all_questions G) hr ctx_px (ja_cons (je_var 0) ja_nil)) (ja_cons (je_var 2) (ja_cons je_dcn ja_nil)))))))
theorem sc__law_call : FnScope ["how", "arguments", "some"] ["how", "arguments"] (defScope (top 59)) := ⟨rfl, rfl, rfl, by decide +kernel, rfl, by decide +kernel, by decide +kernel⟩
theorem ok__law_call (G : Fx fa fn qs K mg) : Cl P w K mg base 19 "_law_call" 2 f__law_call := by
  obtain ⟨fd, F⟩ := G.def_ 38 (d := d38) rfl rfl rfl
  refine cl_of F (G.glo 38 rfl) (F.bindsN fun _ _ _ _ _ _ us hl => match us, hl with | [_, _], _ => rfl) (fn_body (N := ["how", "arguments", "some"]) (ps := ["how", "arguments"]) F sc__law_call fun cdv A outer s H E hr => ?_)
  have nd := sc__law_call.nd
  exact (jss_cons (js_set 2 nd (je_tup (ja_cons (je_gloC (ok_agreeing G)) (ja_cons (je_gloC (ok_fewest_further G)) (ja_cons (je_gloC (ok_fewest_questions G)) (ja_cons (je_gloC (ok_question_plan G)) ja_nil))))))
    (jss_one (js_ret (je_callV [("agreeing", f_agreeing), ("fewest_further", f_fewest_further), ("fewest_questions", f_fewest_questions), ("question_plan", f_question_plan)] (je_ix jx_ix (je_var 2) (je_var 0)) (clt_cons (ok_agreeing G) (clt_cons (ok_fewest_further G) (clt_cons (ok_fewest_questions G) (clt_cons (ok_question_plan G) clt_nil)))) hr ctx_px (ja_cons (je_ix jx_ix (je_var 1) je_int) (ja_cons (je_ix jx_ix (je_var 1) je_int) ja_nil))))))
theorem sc__law_name : FnScope ["caught", "found"] ["caught"] (defScope (top 50)) := ⟨rfl, rfl, rfl, by decide +kernel, rfl, by decide +kernel, by decide +kernel⟩
theorem ok__law_name (G : Fx fa fn qs K mg) : Cl P w K mg base 1 "_law_name" 1 f__law_name := by
  obtain ⟨fd, F⟩ := G.def_ 39 (d := d39) rfl rfl rfl
  refine cl_of F (G.glo 39 rfl) (F.bindsN fun _ _ _ _ _ _ us hl => match us, hl with | [_], _ => rfl) (fn_body (N := ["caught", "found"]) (ps := ["caught"]) F sc__law_name fun cdv A outer s H E hr => ?_)
  have nd := sc__law_name.nd
  exact (jss_cons (js_if (jt_not (jt_val (G.isV rfl (je_var 0) (fr_isinstance G) (fr_ValueError G)))) (jss_one (js_ret (je_neg je_int))) jss_nil)
    (jss_cons (js_set 1 nd (je_fz (jf_lst (ja_cons (G.isE rfl (y := "InvalidThings") (by decide) (je_var 0) (fr_isinstance G)) (ja_cons (G.isE rfl (y := "InvalidTold") (by decide) (je_var 0) (fr_isinstance G)) ja_nil)))))
    (jss_cons (js_set 1 nd (je_bin jo_add (je_var 1) (je_fz (jf_lst (ja_cons (G.isE rfl (y := "InvalidWeights") (by decide) (je_var 0) (fr_isinstance G)) (ja_cons (G.isE rfl (y := "InvalidLot") (by decide) (je_var 0) (fr_isinstance G)) ja_nil))))))
    (jss_cons (js_set 1 nd (je_bin jo_add (je_var 1) (je_fz (jf_lst (ja_cons (G.isE rfl (y := "InvalidComparison") (by decide) (je_var 0) (fr_isinstance G)) (ja_cons (G.isE rfl (y := "InvalidNumber") (by decide) (je_var 0) (fr_isinstance G)) ja_nil))))))
    (jss_cons (js_set 1 nd (je_bin jo_add (je_var 1) (je_fz (jf_lst (ja_cons (G.isE rfl (y := "InvalidText") (by decide) (je_var 0) (fr_isinstance G)) (ja_cons (G.isE rfl (y := "NotSure") (by decide) (je_var 0) (fr_isinstance G)) ja_nil))))))
    (jss_cons (js_set 1 nd (je_bin jo_add (je_var 1) (je_fz (jf_lst (ja_cons (G.isE rfl (y := "NoneAgree") (by decide) (je_var 0) (fr_isinstance G)) (ja_cons (G.isE rfl (y := "TooMany") (by decide) (je_var 0) (fr_isinstance G)) ja_nil))))))
    (jss_cons (js_set 1 nd (je_bin jo_add (je_var 1) (je_fz (jf_lst (ja_cons (G.isE rfl (y := "NothingToUndo") (by decide) (je_var 0) (fr_isinstance G)) ja_nil)))))
    (jss_one (js_ret (je_ifExp (jt_cmp (jo_eq hr.units) (je_count (je_var 1) (ja_cons je_bl ja_nil)) je_int) (je_index (u65 hr) (je_var 1) (ja_cons je_bl ja_nil)) (je_neg je_int)))))))))))
theorem sc__law_outcome : FnScope ["how", "arguments", "caught", "result", "error"] ["how", "arguments"] (defScope (top 49)) := ⟨rfl, rfl, rfl, by decide +kernel, rfl, by decide +kernel, by decide +kernel⟩
theorem ok__law_outcome (G : Fx fa fn qs K mg) : Cl P w K mg base 20 "_law_outcome" 2 f__law_outcome := by
  obtain ⟨fd, F⟩ := G.def_ 40 (d := d40) rfl rfl rfl
  refine cl_of F (G.glo 41 rfl) (F.bindsN fun _ _ _ _ _ _ us hl => match us, hl with | [_, _], _ => rfl) (fn_body (N := ["how", "arguments", "caught", "result", "error"]) (ps := ["how", "arguments"]) F sc__law_outcome fun cdv A outer s H E hr => ?_)
  have nd := sc__law_outcome.nd
  exact (jss_cons (js_set 2 nd je_non)
    (jss_cons (js_set 3 nd je_non)
    (jss_cons (js_tryCall (i := 4) (j := 2) (r := 3) rfl rfl rfl nd (G.names rfl 40 rfl) (G.exm rfl) (ok__law_call G) hr (fun _ _ => (ja_cons (je_var 0) (ja_cons (je_var 1) ja_nil))))
    (jss_cons (js_if (jt_cmp jo_is (je_var 2) je_non) (jss_one (js_ret (je_tup (ja_cons je_str (ja_cons (je_var 3) ja_nil))))) jss_nil)
    (jss_one (js_ret (je_tup (ja_cons je_str (ja_cons (je_call (ok__law_name G) hr ctx_px (ja_cons (je_var 2) ja_nil)) ja_nil)))))))))
theorem sc__law_raises : FnScope ["name", "some"] ["name"] (defScope (top 51)) := ⟨rfl, rfl, rfl, by decide +kernel, rfl, by decide +kernel, by decide +kernel⟩
theorem ok__law_raises (G : Fx fa fn qs K mg) : Cl P w K mg base 1 "_law_raises" 1 f__law_raises := by
  obtain ⟨fd, F⟩ := G.def_ 41 (d := d41) rfl rfl rfl
  refine cl_of F (G.glo 42 rfl) (F.bindsN fun _ _ _ _ _ _ us hl => match us, hl with | [_], _ => rfl) (fn_body (N := ["name", "some"]) (ps := ["name"]) F sc__law_raises fun cdv A outer s H E hr => ?_)
  have nd := sc__law_raises.nd
  exact (jss_cons (js_set 1 nd (je_fz (jf_lst (ja_cons je_str (ja_cons je_str (ja_cons je_str (ja_cons je_str (ja_cons je_str (ja_cons je_str ja_nil)))))))))
    (jss_cons (js_set 1 nd (je_bin jo_add (je_var 1) (je_fz (jf_lst (ja_cons je_str (ja_cons je_str (ja_cons je_str (ja_cons je_str (ja_cons je_str ja_nil)))))))))
    (jss_one (js_ret (je_tup (ja_cons je_str (ja_cons (je_index (u65 hr) (je_var 1) (ja_cons (je_var 0) ja_nil)) ja_nil)))))))
theorem sc__law_answer : FnScope ["ask", "scale", "more"] ["ask", "scale"] (defScope (top 61)) := ⟨rfl, rfl, rfl, by decide +kernel, rfl, by decide +kernel, by decide +kernel⟩
theorem ok__law_answer (G : Fx fa fn qs K mg) : Cl P w K mg base 2 "_law_answer" 2 f__law_answer := by
  obtain ⟨fd, F⟩ := G.def_ 42 (d := d42) rfl rfl rfl
  refine cl_of F (G.glo 43 rfl) (F.bindsN fun _ _ _ _ _ _ us hl => match us, hl with | [_, _], _ => rfl) (fn_body (N := ["ask", "scale", "more"]) (ps := ["ask", "scale"]) F sc__law_answer fun cdv A outer s H E hr => ?_)
  have nd := sc__law_answer.nd
  exact (jss_cons (js_set 2 nd (je_bin jo_sub (je_call (ok__law_weight G) hr ctx_px (ja_cons (je_var 1) (ja_cons (je_ix jx_ix (je_var 0) je_int) ja_nil))) (je_call (ok__law_weight G) hr ctx_px (ja_cons (je_var 1) (ja_cons (je_ix jx_ix (je_var 0) je_int) ja_nil)))))
    (jss_one (js_ret (je_ifExp (jt_cmp jo_gtI (je_var 2) je_int) je_str (je_ifExp (jt_cmp (jo_eq hr.units) (je_var 2) je_int) je_str je_str)))))
theorem sc_law : FnScope ["script", "town", "things", "told", "asks", "some", "due", "size", "numbers", "rows", "found", "more", "bads", "scale", "order", "how", "k", "bad"] ["script"] (defScope (top 63)) := ⟨rfl, rfl, rfl, by decide +kernel, rfl, by decide +kernel, by decide +kernel⟩
theorem law_fn (G : Fx fa fn qs K mg) {fd : FuncData} (F : FunD K "law" "law" (defArgs (top 63)) (defBody (top 63)) (defScope (top 63)) [] [] (He.ga K "law") fd) : FnOk P w K mg base (L2.CX P w) 21 (He.ga K "law") fd ["script"] (spF K mg 1 f_law) := by
  refine fn_body (N := ["script", "town", "things", "told", "asks", "some", "due", "size", "numbers", "rows", "found", "more", "bads", "scale", "order", "how", "k", "bad"]) (ps := ["script"]) F sc_law fun cdv A outer s H E hr => ?_
  have nd := sc_law.nd
  exact (jss_cons (js_set 1 nd (je_call (ok__law_town G) hr ctx_px (ja_cons (je_var 0) ja_nil)))
    (jss_cons (js_set 2 nd (je_bin jo_add je_int (je_call (ok__law_draw G) hr ctx_px (ja_cons (je_var 0) (ja_cons (je_var 1) (ja_cons je_int ja_nil))))))
    (jss_cons (js_asg (vs := [3, 4]) (je_tup (ja_cons (je_call (ok__law_told G) hr ctx_px (ja_cons (je_var 0) (ja_cons (je_var 1) (ja_cons (je_var 2) (ja_cons je_int ja_nil))))) (ja_cons (je_call (ok__law_asks G) hr ctx_px (ja_cons (je_var 2) ja_nil)) ja_nil))) (jg_tup rfl (jgs_cons (jg_name (i := 3) nd) (jgs_cons (jg_name (i := 4) nd) jgs_nil))))
    (jss_cons (js_setLc (i := 5) (own := [("scale", 13), ("order", 14)]) rfl nd (blkOk_by (by kernel_rfl)) (ji_seq (je_call (ok_orders G) hr ctx_px (ja_cons (je_var 2) ja_nil))) (fun _ _ _ _ _ => (jg_tup rfl (jgs_cons (jg_name (i := 13) nd) (jgs_cons (jg_name (i := 14) nd) jgs_nil)))) (fun _ _ _ _ _ => (jts_one (jt_val (je_call (ok__law_agree G) hr passL (ja_cons (je_var 3) (ja_cons (je_var 13) ja_nil)))))) (fun _ _ _ _ _ => (je_tup (ja_cons (je_var 13) (ja_cons (je_var 14) ja_nil)))))
    (jss_cons (js_if (jt_cmp (jo_ne hr.units) (je_call (ok_agreeing G) hr ctx_px (ja_cons (je_var 2) (ja_cons (je_var 3) ja_nil))) (je_callTy jc_tuple (ja_cons (je_fz (jf_lc (own := [("scale", 13), ("order", 14)]) rfl nd (blkOk_by (by kernel_rfl)) (ji_seq (je_var 5)) (fun _ _ _ _ _ => (jg_tup rfl (jgs_cons (jg_name (i := 13) nd) (jgs_cons (jg_name (i := 14) nd) jgs_nil)))) (fun _ _ _ _ _ => jts_nil) (fun _ _ _ _ _ => (je_var 14)))) ja_nil) (fr_tuple G) (by decide +kernel))) (jss_one (js_ret je_bl)) jss_nil)
    (jss_cons (js_if (jt_cmp (jo_eq hr.units) (je_var 5) (je_fz (jf_lst ja_nil))) (jss_one (js_ret (je_cmp (jo_eq hr.units) (je_fz (jf_lc (own := [("how", 15)]) rfl nd (blkOk_by (by kernel_rfl)) (ji_seq (je_tup (ja_cons je_int (ja_cons je_int (ja_cons je_int ja_nil))))) (fun _ _ _ _ _ => (jg_name (i := 15) nd)) (fun _ _ _ _ _ => (jts_one (jt_cmp (jo_ne hr.units) (je_call (ok__law_outcome G) hr passL (ja_cons (je_var 15) (ja_cons (je_tup (ja_cons (je_var 2) (ja_cons (je_var 3) ja_nil))) ja_nil))) (je_call (ok__law_raises G) hr passL (ja_cons je_str ja_nil))))) (fun _ _ _ _ _ => (je_var 15)))) (je_fz (jf_lst ja_nil))))) jss_nil)
    (jss_cons (js_set 6 nd je_non)
    (jss_cons (js_for (vs := [7]) ctx_po rfl (ji_range1 (ja_cons (je_bin jo_add (je_callB jc_len (ja_cons (je_var 4) ja_nil) (fr_len G) PySem.boot_len) je_int) ja_nil) (fr_range G)) (jg_name (i := 7) nd) (jss_one (js_for (vs := [8]) ctx_po rfl (ji_seq (je_call (ok__law_sets G) hr ctx_px (ja_cons (je_callB jc_len (ja_cons (je_var 4) ja_nil) (fr_len G) PySem.boot_len) (ja_cons (je_var 7) ja_nil)))) (jg_name (i := 8) nd) (jss_cons (js_setLc (i := 9) (own := [("scale", 13), ("order", 14)]) rfl nd (blkOk_by (by kernel_rfl)) (ji_seq (je_var 5)) (fun _ _ _ _ _ => (jg_tup rfl (jgs_cons (jg_name (i := 13) nd) (jgs_cons (jg_name (i := 14) nd) jgs_nil)))) (fun _ _ _ _ _ => jts_nil) (fun _ _ _ _ _ => (je_callTy jc_tuple (ja_cons (je_fz (jf_lc (own := [("k", 16)]) rfl nd (blkOk_by (by kernel_rfl)) (ji_seq (je_var 8)) (fun _ _ _ _ _ => (jg_name (i := 16) nd)) (fun _ _ _ _ _ => jts_nil) (fun _ _ _ _ _ => (je_call (ok__law_answer G) hr passL (ja_cons (je_ix jx_ix (je_var 4) (je_var 16)) (ja_cons (je_var 13) ja_nil)))))) ja_nil) (fr_tuple G) (by decide +kernel))))
    (jss_one (js_if (JW.jt (jw_and (jt_cmp jo_is (je_var 6) je_non) (jw_and1 (jt_cmp (jo_eq hr.units) (je_lenSetT (u65 hr) rfl (je_var 9) (fr_len G) (fr_set G)) (je_callB jc_len (ja_cons (je_var 9) ja_nil) (fr_len G) PySem.boot_len))))) (jss_one (js_set 6 nd (je_callTy jc_tuple (ja_cons (je_fz (jf_lc (own := [("k", 16)]) rfl nd (blkOk_by (by kernel_rfl)) (ji_seq (je_var 8)) (fun _ _ _ _ _ => (jg_name (i := 16) nd)) (fun _ _ _ _ _ => jts_nil) (fun _ _ _ _ _ => (je_ix jx_ix (je_var 4) (je_var 16))))) ja_nil) (fr_tuple G) (by decide +kernel)))) jss_nil))))))
    (jss_cons (js_set 10 nd (je_call (ok_fewest_further G) hr ctx_px (ja_cons (je_var 2) (ja_cons (je_var 3) ja_nil))))
    (jss_cons (js_if (JW.jt (jw_or (jt_cmp (jo_ne hr.units) (je_var 10) (je_var 6)) (jw_or (jt_cmp (jo_ne hr.units) (je_cmp (jo_eq hr.units) (je_var 10) (je_tup ja_nil)) (je_cmp (jo_eq hr.units) (je_callB jc_len (ja_cons (je_var 5) ja_nil) (fr_len G) PySem.boot_len) je_int)) (jw_or1 (jt_cmp jo_gtI (je_call (ok_fewest_questions G) hr ctx_px (ja_cons (je_var 2) (ja_cons (je_var 3) ja_nil))) (je_callB jc_len (ja_cons (je_var 10) ja_nil) (fr_len G) PySem.boot_len)))))) (jss_one (js_ret je_bl)) jss_nil)
    (jss_cons (js_set 11 nd (je_bin jo_add (je_var 3) (je_tup (ja_cons (je_call (ok__law_comparison G) hr ctx_px (ja_cons (je_var 0) (ja_cons (je_var 1) (ja_cons (je_var 2) (ja_cons (je_ix jx_ix (je_ix jx_ix (je_var 5) je_int) je_int) ja_nil))))) ja_nil))))
    (jss_cons (js_if (JW.jt (jw_and (jt_val (je_call (ok__law_agree G) hr ctx_px (ja_cons (je_var 11) (ja_cons (je_ix jx_ix (je_ix jx_ix (je_var 5) je_int) je_int) ja_nil)))) (jw_and1 (jt_cmp jo_gtI (je_callB jc_len (ja_cons (je_call (ok_fewest_further G) hr ctx_px (ja_cons (je_var 2) (ja_cons (je_var 11) ja_nil))) ja_nil) (fr_len G) PySem.boot_len) (je_callB jc_len (ja_cons (je_var 10) ja_nil) (fr_len G) PySem.boot_len))))) (jss_one (js_ret je_bl)) jss_nil)
    (jss_cons (js_if (jt_cmp (jo_ne hr.units) (je_fz (jf_lc (own := [("how", 15)]) rfl nd (blkOk_by (by kernel_rfl)) (ji_range1 (ja_cons je_int ja_nil) (fr_range G)) (fun _ _ _ _ _ => (jg_name (i := 15) nd)) (fun _ _ _ _ _ => (jts_one (jt_cmp (jo_ne hr.units) (je_call (ok__law_outcome G) hr passL (ja_cons (je_var 15) (ja_cons (je_tup (ja_cons je_int (ja_cons (je_tup ja_nil) ja_nil))) ja_nil))) (je_call (ok__law_raises G) hr passL (ja_cons je_str ja_nil))))) (fun _ _ _ _ _ => (je_var 15)))) (je_fz (jf_lst ja_nil))) (jss_one (js_ret je_bl)) jss_nil)
    (jss_cons (js_set 12 nd (je_fz (jf_lst (ja_cons je_non (ja_cons (je_tup (ja_cons (je_tup (ja_cons je_int ja_nil)) ja_nil)) (ja_cons (je_fz (jf_lst (ja_cons (je_tup (ja_cons (je_tup (ja_cons je_int ja_nil)) (ja_cons je_str (ja_cons (je_tup ja_nil) ja_nil)))) ja_nil))) (ja_cons (je_tup (ja_cons (je_tup (ja_cons (je_tup (ja_cons je_int ja_nil)) (ja_cons je_str (ja_cons (je_tup ja_nil) ja_nil)))) ja_nil)) (ja_cons (je_tup (ja_cons (je_tup (ja_cons (je_tup (ja_cons je_int ja_nil)) (ja_cons je_str (ja_cons (je_tup ja_nil) ja_nil)))) ja_nil)) ja_nil))))))))
    (jss_one (js_ret (je_cmp (jo_eq hr.units) (je_fz (jf_lc (own := [("bad", 17)]) rfl nd (blkOk_by (by kernel_rfl)) (ji_seq (je_var 12)) (fun _ _ _ _ _ => (jg_name (i := 17) nd)) (fun _ _ _ _ _ => (jts_one (jt_cmp (jo_ne hr.units) (je_call (ok__law_outcome G) hr passL (ja_cons je_int (ja_cons (je_tup (ja_cons (je_var 2) (ja_cons (je_var 17) ja_nil))) ja_nil))) (je_call (ok__law_raises G) hr passL (ja_cons je_str ja_nil))))) (fun _ _ _ _ _ => (je_var 17)))) (je_fz (jf_lst ja_nil)))))))))))))))))))
end
end Gk40
end
section
set_option Elab.async false
set_option linter.all false
set_option maxRecDepth 100000
namespace Lq
open PySem PySem.Spec PyProof.Rows L2
noncomputable def runO (r : PySem.W.OpenRow) (M : Nat) (w : World) (os : OsState) : Option PySem.W.SharedT := HandSHeadRun.endF (HandSHeadRun.stepQ (HandSHeadRun.denQ HandSHeadRun.tabQ) r.prog w) M r.prog w os
def KT (n : Nat) (s : PySem.W.SharedT) : PySem.W.Frag := He.frG (HandSHeadRun.getT s) (He.asD (HandSHeadRun.getT s) n)
noncomputable abbrev ptA (r : PySem.W.OpenRow) (q : Program) (loose : List Str) (w : World) := fun s : PySem.W.SharedT =>
  (HandSHeadRun.looksF r.prog (PySem.W.boot_heap w.params) s.abs, HandSHeadRun.seenQ q loose (importedModules r.prog.main.body) (fun s => PySem.W.xlAt q [] s && PySem.W.recOk r.toRowW.records s) s.abs)
theorem join5 {S T : Type} {o : Option S} {a : S → Bool} {b : S → T} {fb fc fe : S → Bool} {U : Type} {fd : S → U} {g : T} {v : U}
    (hA : o.map (fun s => (a s, b s)) = some (true, g)) (hB : o.map fb = some true) (hC : o.map fc = some true) (hD : o.map fd = some v) (hE : o.map fe = some true) :
    o.map (fun s => (a s, b s, ((fb s && fc s, fd s), fe s))) = some (true, g, ((true, v), true)) := by
  cases o with
  | none => cases hB
  | some s =>
    have eA := Option.some.inj hA
    have eB := Option.some.inj hB
    have eC := Option.some.inj hC
    have eD := Option.some.inj hD
    have eE := Option.some.inj hE
    have e1 := congrArg Prod.fst eA
    have e2 := congrArg Prod.snd eA
    simp only at e1 e2 eB eC eD eE
    show some (a s, b s, ((fb s && fc s, fd s), fe s)) = some _
    rw [e1, e2, eB, eC, eD, eE]
    rfl
theorem runEq_of {r : PySem.W.OpenRow} {q : Program} {n M : Nat} {fa : List He.Fa} {fn : List He.DefD} {qs : Ask} {loose : List Str} {w : World}
    (hA : ∀ os, (runO r M w os).map (ptA r q loose w) = some (true, PySem.W.openGood q loose))
    (hB : ∀ os, (runO r M w os).map (fun s => fa.all fun f => f.ok (KT n s)) = some true)
    (hC : ∀ os, (runO r M w os).map (fun s => fn.all fun d => d.ok (KT n s)) = some true)
    (hD : ∀ os, (runO r M w os).map (fun s => fn.map fun d => He.fnW (KT n s) d.at_) = some (fn.map He.DefD.val))
    (hE : ∀ os, (runO r M w os).map (fun s => exM qs (KT n s)) = some true) :
    HandSHeadRun.RunEq r q (hookM n fa fn qs) (obM n fa fn qs) M loose w := by
  intro os
  exact join5 (hA os) (hB os) (hC os) (hD os) (hE os)
end Lq
end
section
set_option Elab.async false
set_option linter.all false
set_option maxRecDepth 100000
set_option maxHeartbeats 0
namespace Gk40
open PySem PySem.Spec PyProof.Rows L2 Lq
abbrev R_ : PySem.W.OpenRow := PySem.W.OpenLaw.row PySem.Challenge.rw_lotscales_k40_whole_further
abbrev hk : PySem.W.Hook := hookM 4 fa fn qs
abbrev ob : PySem.W.SharedT → He.AlD × Bool := obM 4 fa fn qs
theorem runA (w : World) (os : OsState) : (runO R_ 6000 w os).map (ptA R_ (PySem.W.view R_.prog [63]) loose w) = some (true, PySem.W.openGood (PySem.W.view R_.prog [63]) loose) := by kernel_rfl
theorem runB (w : World) (os : OsState) : (runO R_ 6000 w os).map (fun s => fa.all fun f => f.ok (KT 4 s)) = some true := by kernel_rfl
theorem runC (w : World) (os : OsState) : (runO R_ 6000 w os).map (fun s => fn.all fun d => d.ok (KT 4 s)) = some true := by kernel_rfl
theorem runD (w : World) (os : OsState) : (runO R_ 6000 w os).map (fun s => fn.map fun d => He.fnW (KT 4 s) d.at_) = some (fn.map He.DefD.val) := by kernel_rfl
theorem runE (w : World) (os : OsState) : (runO R_ 6000 w os).map (fun s => exM qs (KT 4 s)) = some true := by kernel_rfl
theorem run (w : World) : HandSHeadRun.RunEq R_ (PySem.W.view R_.prog [63]) hk ob 6000 loose w :=
  runEq_of (runA w) (runB w) (runC w) (runD w) (runE w)
end Gk40
end
section
set_option Elab.async false
set_option linter.all false
set_option maxRecDepth 10000
namespace Lq
open PySem PySem.Spec PyProof.Rows L2
def townF : Fn := runF 1
    (sRet (eOw (fAdd (eFz (fDisp (aCons (eC (.int 0)) aNil))) (eFz (fList (eVar 0))))))
def drawF : Fn := runF 6
    (sSeq (sAsg (eBin oAdd (eBin oIx (eVar 1) (eC (.int 0))) (eC (.int 1))) (gSubL (eVar 1) (eC (.int 0))))
    (sSeq (sIf (tE (eBin oEq (eVar 0) (eFz (fDisp aNil)))) (sRet (eBin oMod (eBin oDiv (eBin oMul (eBin oMul (eBin oIx (eVar 1) (eC (.int 0))) (eBin oIx (eVar 1) (eC (.int 0)))) (eC (.int 7))) (eC (.int 3))) (eVar 2))) sNil)
    (sSeq (sSet 3 (eBin oMod (eBin oIx (eVar 1) (eC (.int 0))) (eCB oLen (aCons (eVar 0) aNil))))
    (sSeq (sSet 4 (eBin oIx (eVar 1) (eBin oAdd (eC (.int 1)) (eVar 3))))
    (sSeq (sIf (tAndF (tE (eBin oGeI (eBin oIx (eVar 0) (eVar 3)) (eBin oPow (eC (.int 10)) (eC (.int 18))))) (tE (eBin oGtI (eVar 4) (eC (.int 0))))) (sSeq (sAsg (eBin oDiv (eVar 4) (eVar 2)) (gSubL (eVar 1) (eBin oAdd (eC (.int 1)) (eVar 3))))
    (sRet (eBin oMod (eVar 4) (eVar 2)))) sNil)
    (sSeq (sSet 5 (eBin oMod (eBin oAdd (eBin oIx (eVar 0) (eVar 3)) (eBin oMul (eC (.int 104729)) (eBin oIx (eVar 1) (eC (.int 0))))) (eC (.int 4294967291))))
    (sSeq (sSet 5 (eBin oMod (eBin oPow (eVar 5) (eC (.int 5))) (eC (.int 4294967279))))
    (sRet (eBin oMod (eBin oDiv (eBin oMod (eBin oAdd (eBin oMul (eBin oDiv (eVar 5) (eC (.int 64))) (eC (.int 69621))) (eVar 5)) (eC (.int 4294967231))) (eC (.int 8))) (eVar 2))))))))))
theorem b_ok {α β : Type} {a : α} {s : Store} {k : α → Store → R β} : (R.ok a s).bind k = k a s := rfl
def Town (ns : List Int) (k : Nat) (c : List PV) : Prop := ∃ (n : Int) (ls : List Int), c = (n :: ls).map PV.int ∧ ls.length = ns.length ∧ 0 ≤ n ∧ n ≤ (k : Int)
theorem dOks_ints (m : Nat) : ∀ ns : List Int, dOks m (ns.map PV.int) = true
  | [] => rfl
  | n :: r => by rw [List.map_cons, dOks, dOks_ints m r]; rfl
theorem noScrs_ints : ∀ ns : List Int, noScrs (ns.map PV.int) = true
  | [] => rfl
  | n :: r => by rw [List.map_cons, noScrs, noScrs_ints r]; rfl
theorem town_ok (ns : List Int) (hl : ns.length ≤ 63) : townF [.scr ns] [] = .ok (.own 0) [.lst ((0 :: ns).map PV.int)] := by
  have h : (1 + ns.length ≤ sizeLine) := by
    have : sizeLine = 16777216 := by decide
    omega
  simp [townF, runF, ret, env0, sRet, eOw, fAdd, eFz, fDisp, aCons, aNil, eC, fList, eVar, R.bind, asS, asL, asM, show (1 : Nat) ≤ sizeLine by decide]
  rw [if_pos (by omega)]
  rfl
theorem atI_nat {α : Type} {xs : List α} {i : Nat} {x : α} (h : xs[i]? = some x) : atI xs (i : Int) = some x := by
  have hi := (List.getElem?_eq_some_iff.mp h).1
  unfold atI ixN
  rw [if_pos (Int.natCast_nonneg _), if_pos (by omega)]
  simpa using h
theorem draw_ok {ns : List Int} {k t : Nat} {c : List PV} {st : Store} {lim : Int} (ht : st[t]? = some (.lst c)) (T : Town ns k c) (hk : k < 1000000) (hns : ns.length ≤ 63) (h0 : 0 < lim) (h1 : lim < 1000000) :
    ∃ d c', drawF [.scr ns, .own t, .int lim] st = .ok (.int d) (st.set t (.lst c')) ∧ 0 ≤ d ∧ d < lim ∧ Town ns (k + 1) c' := by
  obtain ⟨n, ls, rfl, hls, n0, nk⟩ := T
  have htl : t < st.length := (List.getElem?_eq_some_iff.mp ht).1
  have slog : ∀ x : Int, 0 ≤ x → x < 2 ^ 64 → x.natAbs.log2 < 9000 := fun x a b => by
    by_cases z : x.natAbs = 0
    · rw [z]; decide
    · have : x.natAbs < 2 ^ 64 := by omega
      exact Nat.lt_trans ((Nat.log2_lt z).mpr this) (by decide)
  have e0 : (env0 6 [.scr ns, .own t, .int lim] : Ev) = [some (.scr ns), some (.own t), some (.int lim), none, none, none] := rfl
  have c1 : (st.set t (.lst (((n + 1) :: ls).map PV.int)))[t]? = some (.lst (((n + 1) :: ls).map PV.int)) := by rw [List.getElem?_set_self htl]
  have ad : ∀ (a b : Int) (s : Store), oAdd (.int a) (.int b) s = some (.int (a + b)) := fun _ _ _ => rfl
  have ix0 : ∀ (a : Int) (s : Store), s[t]? = some (.lst ((a :: ls).map PV.int)) → oIx (.own t) (.int 0) s = some (.int a) := fun a s h => by
    simp [oIx, asS, asL, h, atI, ixN]
  unfold drawF runF
  rw [e0]
  have stepA : ∀ (rest : XS), sSeq (sAsg (eBin oAdd (eBin oIx (eVar 1) (eC (.int 0))) (eC (.int 1))) (gSubL (eVar 1) (eC (.int 0)))) rest [some (.scr ns), some (.own t), some (.int lim), none, none, none] st
      = rest [some (.scr ns), some (.own t), some (.int lim), none, none, none] (st.set t (.lst (((n + 1) :: ls).map PV.int))) := fun rest => by
    simp only [sSeq, sAsg, eBin, eVar, eC, b_ok, List.getElem?_cons_succ, List.getElem?_cons_zero, ix0 n st ht, ad, gSubL, ht]
    have : ixN ((n :: ls).map PV.int).length 0 = some 0 := by simp [ixN]
    rw [this]
    rfl
  rw [stepA]
  generalize hst1 : st.set t (.lst (((n + 1) :: ls).map PV.int)) = st1 at c1
  have stt : ∀ x, st1.set t x = st.set t x := fun x => by rw [← hst1, List.set_set]
  have ht1 : t < st1.length := by rw [← hst1]; simpa using htl
  have town1 : Town ns (k + 1) (((n + 1) :: ls).map PV.int) := ⟨n + 1, ls, rfl, hls, by omega, by omega⟩
  have eqS : oEq (.scr ns) (.lst []) st1 = some (.bl (peqs (ns.map PV.int) [])) := by
    have a1 : dChk (.lst (ns.map PV.int)) = true := by unfold dChk; rw [dOk, noScr, dOks_ints, noScrs_ints]; rfl
    have a2 : dChk (.lst []) = true := rfl
    unfold oEq
    simp only [rsv, a1, a2, Bool.and_self, if_true]
    rw [peq]
  have n63 : sizeLine = 16777216 := by decide
  have sm : ∀ x : Int, x = x % lim → 0 ≤ x ∧ x < lim := fun x hx => by
    have := Int.emod_nonneg x (show lim ≠ 0 by omega)
    have := Int.emod_lt_of_pos x h0
    omega
  have md : ∀ (x : Int), 0 ≤ x % lim ∧ x % lim < lim := fun x => ⟨Int.emod_nonneg x (by omega), Int.emod_lt_of_pos x h0⟩
  have mod_ : ∀ (x y : Int) (s : Store), 0 < y → oMod (.int x) (.int y) s = some (.int (x % y)) := fun x y s h => by simp [oMod, oI, h]
  have mul_ : ∀ (x y : Int) (s : Store), -(2 ^ 64) < y → y < 2 ^ 64 → oMul (.int x) (.int y) s = some (.int (x * y)) := fun x y s a b => by
    have : mulOk x y = true := by
      unfold mulOk
      simp only [Bool.or_eq_true, Bool.and_eq_true, decide_eq_true_eq]
      exact .inr (.inl ⟨a, b⟩)
    simp [oMul, oOr, oMulI, oI, this]
  have div_ : ∀ (x y : Int) (s : Store), 0 < y → y < 2 ^ 64 → oDiv (.int x) (.int y) s = some (.int (x / y)) := fun x y s a b => by
    simp [oDiv, oI, a, slog y (by omega) b]
  by_cases hn : ns = []
  · subst hn
    have r0 : peqs (([] : List Int).map PV.int) [] = true := rfl
    refine ⟨(n + 1) * (n + 1) * 7 / 3 % lim, ((n + 1) :: ls).map PV.int, ?_, (md _).1, (md _).2, town1⟩
    simp only [sSeq, sIf, tE, toB, eBin, eVar, eC, eFz, fDisp, aNil, b_ok, List.getElem?_cons_succ, List.getElem?_cons_zero, List.length_nil, Nat.zero_le, if_true, eqS, r0, sRet, ix0 (n + 1) st1 c1,
      mul_ (n + 1) (n + 1) st1 (by omega) (by omega), mul_ ((n + 1) * (n + 1)) 7 st1 (by omega) (by omega), div_ _ 3 st1 (by omega) (by omega), mod_ _ lim st1 h0, ret]
    rw [← hst1]
  · have r0 : peqs (ns.map PV.int) [] = false := by
      cases ns with
      | nil => exact absurd rfl hn
      | cons _ _ => simp [peqs]
    have lp : 0 < ns.length := List.length_pos_iff.mpr hn
    obtain ⟨j, hj⟩ : ∃ j : Nat, (n + 1) % (ns.length : Int) = (j : Int) := ⟨((n + 1) % (ns.length : Int)).toNat, by
      have := Int.emod_nonneg (n + 1) (show (ns.length : Int) ≠ 0 by omega)
      omega⟩
    have hjl : j < ns.length := by
      have := Int.emod_lt_of_pos (n + 1) (show (0 : Int) < (ns.length : Int) by omega)
      omega
    obtain ⟨x, hx⟩ : ∃ x, ns[j]? = some x := ⟨_, List.getElem?_eq_getElem hjl⟩
    obtain ⟨l, hlj⟩ : ∃ l, ls[j]? = some l := ⟨_, List.getElem?_eq_getElem (by omega)⟩
    have ixS : oIx (.scr ns) (.int (j : Int)) st1 = some (.int x) := by
      simp only [oIx, asS, asL]
      exact atI_nat (by simp [hx])
    have ixT : oIx (.own t) (.int (1 + (j : Int))) st1 = some (.int l) := by
      simp only [oIx, asS, asL, c1]
      have : (1 + (j : Int)) = ((j + 1 : Nat) : Int) := by omega
      rw [this]
      exact atI_nat (by simp [hlj])
    have lenS : oLen [.scr ns] st1 = some (.int (ns.length : Int)) := by
      simp [oLen, asS, asL]
    have pw : ∀ (x y : Int) (s : Store), 0 ≤ y → y ≤ 1000000 → x.natAbs < 2 ^ 64 → oPow (.int x) (.int y) s = some (.int (x ^ y.toNat)) := fun x y s a b c => by simp only [oPow, oI, a, b, c, and_self, if_true]
    have ge : ∀ (a b : Int) (s : Store), oGeI (.int a) (.int b) s = some (.bl (decide (b ≤ a))) := fun _ _ _ => rfl
    have gt : ∀ (a b : Int) (s : Store), oGtI (.int a) (.int b) s = some (.bl (decide (b < a))) := fun _ _ _ => rfl
    have ixw : ixN (((n + 1) :: ls).map PV.int).length (1 + (j : Int)) = some (j + 1) := by
      unfold ixN
      have : ((((n + 1) :: ls).map PV.int).length : Int) = (ls.length : Int) + 1 := by simp
      rw [if_pos (by omega), if_pos (by omega)]
      congr 1
      omega
    have stepB : ∀ (b : XS) (rest : XS), sSeq (sIf (tE (eBin oEq (eVar 0) (eFz (fDisp aNil)))) b sNil) rest [some (.scr ns), some (.own t), some (.int lim), none, none, none] st1
        = rest [some (.scr ns), some (.own t), some (.int lim), none, none, none] st1 := fun b rest => by
      simp only [sSeq, sIf, tE, toB, eBin, eVar, eC, eFz, fDisp, aNil, b_ok, List.getElem?_cons_succ, List.getElem?_cons_zero, List.length_nil, Nat.zero_le, if_true, eqS, r0, sNil]
      rfl
    rw [stepB]
    have stepC : ∀ (rest : XS), sSeq (sSet 3 (eBin oMod (eBin oIx (eVar 1) (eC (.int 0))) (eCB oLen (aCons (eVar 0) aNil)))) rest [some (.scr ns), some (.own t), some (.int lim), none, none, none] st1
        = rest [some (.scr ns), some (.own t), some (.int lim), some (.int (j : Int)), none, none] st1 := fun rest => by
      simp only [sSeq, sSet, eBin, eVar, eC, eCB, aCons, aNil, b_ok, List.getElem?_cons_succ, List.getElem?_cons_zero, ix0 (n + 1) st1 c1, lenS, mod_ (n + 1) (ns.length : Int) st1 (by omega), hj]
      rfl
    rw [stepC]
    have stepD : ∀ (rest : XS), sSeq (sSet 4 (eBin oIx (eVar 1) (eBin oAdd (eC (.int 1)) (eVar 3)))) rest [some (.scr ns), some (.own t), some (.int lim), some (.int (j : Int)), none, none] st1
        = rest [some (.scr ns), some (.own t), some (.int lim), some (.int (j : Int)), some (.int l), none] st1 := fun rest => by
      simp only [sSeq, sSet, eBin, eVar, eC, b_ok, List.getElem?_cons_succ, List.getElem?_cons_zero, ad, ixT]
      rfl
    rw [stepD]
    generalize hE : ([some (.scr ns), some (.own t), some (.int lim), some (.int (j : Int)), some (.int l), none] : Ev) = E1
    have v0 : E1[0]? = some (some (.scr ns)) := by rw [← hE]; rfl
    have v1 : E1[1]? = some (some (.own t)) := by rw [← hE]; rfl
    have v2 : E1[2]? = some (some (.int lim)) := by rw [← hE]; rfl
    have v3 : E1[3]? = some (some (.int (j : Int))) := by rw [← hE]; rfl
    have v4 : E1[4]? = some (some (.int l)) := by rw [← hE]; rfl
    have p18 : oPow (.int 10) (.int 18) st1 = some (.int (10 ^ 18)) := pw 10 18 st1 (by decide) (by decide) (by decide)
    by_cases g : (10 : Int) ^ 18 ≤ x ∧ 0 < l
    · refine ⟨l % lim, (((n + 1) :: ls).map PV.int).set (j + 1) (.int (l / lim)), ?_, (md _).1, (md _).2, ?_⟩
      · have cond : tAndF (tE (eBin oGeI (eBin oIx (eVar 0) (eVar 3)) (eBin oPow (eC (.int 10)) (eC (.int 18))))) (tE (eBin oGtI (eVar 4) (eC (.int 0)))) E1 st1 = .ok true st1 := by
          simp only [tAndF, tE, toB, eBin, eVar, eC, v0, v3, v4, b_ok, ixS, p18, ge, gt, g.1, g.2, decide_true, if_true]
        have st2 : sAsg (eBin oDiv (eVar 4) (eVar 2)) (gSubL (eVar 1) (eBin oAdd (eC (.int 1)) (eVar 3))) E1 st1 = .ok (.nx E1) (st1.set t (.lst ((((n + 1) :: ls).map PV.int).set (j + 1) (.int (l / lim))))) := by
          simp only [sAsg, eBin, eVar, eC, gSubL, v1, v2, v3, v4, b_ok, ad, div_ l lim st1 h0 (by omega), c1, ixw]
        simp only [sSeq, sIf, cond, b_ok, if_true, st2, sRet, eBin, eVar, v4, v2, mod_ l lim _ h0, ret, stt]
      · refine ⟨n + 1, ls.set j (l / lim), ?_, by simpa using hls, by omega, by omega⟩
        simp [List.map_set]
    · have cond : tAndF (tE (eBin oGeI (eBin oIx (eVar 0) (eVar 3)) (eBin oPow (eC (.int 10)) (eC (.int 18))))) (tE (eBin oGtI (eVar 4) (eC (.int 0)))) E1 st1 = .ok false st1 := by
        simp only [tAndF, tE, toB, eBin, eVar, eC, v0, v3, v4, b_ok, ixS, p18, ge, gt]
        by_cases g1 : (10 : Int) ^ 18 ≤ x
        · have g2 : ¬ (0 < l) := fun z => g ⟨g1, z⟩
          simp only [g1, g2, decide_true, decide_false, if_true]
        · simp only [g1, decide_false]
          rfl
      generalize hm : (x + 104729 * (n + 1)) % 4294967291 = m
      have hm0 : 0 ≤ m := by rw [← hm]; exact Int.emod_nonneg _ (by decide)
      have hm1 : m < 4294967291 := by rw [← hm]; exact Int.emod_lt_of_pos _ (by decide)
      have t1 : oMod (.int (x + 104729 * (n + 1))) (.int 4294967291) st1 = some (.int m) := by rw [mod_ _ _ _ (by decide), hm]
      have t0 : oMul (.int 104729) (.int (n + 1)) st1 = some (.int (104729 * (n + 1))) := mul_ _ _ _ (by omega) (by omega)
      have t2 : oPow (.int m) (.int 5) st1 = some (.int (m ^ 5)) := pw m 5 st1 (by decide) (by decide) (by omega)
      generalize hm5 : m ^ 5 % 4294967279 = w
      have t3 : oMod (.int (m ^ 5)) (.int 4294967279) st1 = some (.int w) := by rw [mod_ _ _ _ (by decide), hm5]
      have t4 : oDiv (.int w) (.int 64) st1 = some (.int (w / 64)) := div_ _ _ _ (by decide) (by decide)
      have t5 : oMul (.int (w / 64)) (.int 69621) st1 = some (.int (w / 64 * 69621)) := mul_ _ _ _ (by decide) (by decide)
      have t6 : oMod (.int (w / 64 * 69621 + w)) (.int 4294967231) st1 = some (.int ((w / 64 * 69621 + w) % 4294967231)) := mod_ _ _ _ (by decide)
      have t7 : ∀ z, oDiv (.int z) (.int 8) st1 = some (.int (z / 8)) := fun z => div_ _ _ _ (by decide) (by decide)
      refine ⟨(w / 64 * 69621 + w) % 4294967231 / 8 % lim, ((n + 1) :: ls).map PV.int, ?_, (md _).1, (md _).2, town1⟩
      have s5 : ∀ v, (E1.set 5 v)[5]? = some v := fun v => by rw [← hE]; rfl
      have s2 : ∀ v, (E1.set 5 v)[2]? = some (some (.int lim)) := fun v => by rw [← hE]; rfl
      have s55 : ∀ v w, (E1.set 5 v).set 5 w = E1.set 5 w := fun v w => List.set_set ..
      simp only [sSeq, sIf, cond, b_ok, Bool.false_eq_true, if_false, sNil, sSet, sRet, eBin, eVar, eC, v0, v1, v2, v3, ixS, ix0 (n + 1) st1 c1, t0, ad, t1, s5, t2, t3, s55, t4, t5, t6, t7, s2, mod_ _ lim _ h0, ret]
      rw [← hst1]
end Lq
end
section
set_option Elab.async false
set_option linter.all false
set_option maxRecDepth 10000
namespace Lq
open PySem PySem.Spec PyProof.Rows L2
def p_is_between : Fn := runF 3
    (sRet (eAnd (eIsi .int (eVar 0)) (eAnd (eNot (eIsi .bl (eVar 0))) (eChain oLeI oLeI (eVar 1) (eVar 0) (eVar 2)))))
def p_check_things : Fn := runF 1
    (sIf (tNotF (tE (eCall 3 p_is_between (aCons (eVar 0) (aCons (eC (.int 1)) (aCons (eC (.int 5)) aNil)))))) (sRaise "InvalidThings") sNil)
def p_is_found_lot : Fn := runF 4
    (sSeq (sIf (tOrF (tNotF (tE (eIsi .tup (eVar 1)))) (tNotF (tE (eCB oAll (aCons (eFz (fComp (iVal (eVar 1)) (gNm 2) (fun _ st => .ok true st) (eCall 3 p_is_between (aCons (eVar 2) (aCons (eC (.int 0)) (aCons (eBin oSub (eVar 0) (eC (.int 1))) aNil)))) [2])) aNil))))) (sRet (eC (.bl false))) sNil)
    (sRet (eCB oAll (aCons (eFz (fComp (iRange1 (aCons (eBin oSub (eCB oLen (aCons (eVar 1) aNil)) (eC (.int 1))) aNil)) (gNm 3) (fun _ st => .ok true st) (eBin oLt (eBin oIx (eVar 1) (eVar 3)) (eBin oIx (eVar 1) (eBin oAdd (eVar 3) (eC (.int 1))))) [3])) aNil))))
def p_is_comparison : Fn := runF 2
    (sSeq (sIf (tOrF (tNotF (tE (eIsi .tup (eVar 1)))) (tOrF (tE (eBin oNe (eCB oLen (aCons (eVar 1) aNil)) (eC (.int 3)))) (tOrF (tNotF (tE (eIsi .str (eBin oIx (eVar 1) (eC (.int 1)))))) (tE (eBin oNin (eBin oIx (eVar 1) (eC (.int 1))) (eC (.tup [.str ">", .str ">=", .str "="]))))))) (sRet (eC (.bl false))) sNil)
    (sRet (eAnd (eCall 2 p_is_found_lot (aCons (eVar 0) (aCons (eBin oIx (eVar 1) (eC (.int 0))) aNil))) (eCall 2 p_is_found_lot (aCons (eVar 0) (aCons (eBin oIx (eVar 1) (eC (.int 2))) aNil))))))
end Lq
end
section
set_option Elab.async false
set_option linter.all false
set_option maxRecDepth 10000
namespace Lq
open PySem PySem.Spec PyProof.Rows L2
def p__law_pick : Fn := runF 3
    (sRet (eBin oIx (eVar 2) (eCall 3 drawF (aCons (eVar 0) (aCons (eVar 1) (aCons (eCB oLen (aCons (eVar 2) aNil)) aNil))))))
def p__law_scale : Fn := runF 5
    (sSeq (sSet 3 (eCall 3 p__law_pick (aCons (eVar 0) (aCons (eVar 1) (aCons (eFz (fDisp (aCons (eC (.int 2)) (aCons (eC (.int 4)) (aCons (eC (.int 9)) aNil))))) aNil)))))
    (sRet (eCB oTuple (aCons (eFz (fComp (iRange1 (aCons (eVar 2) aNil)) (gNm 4) (fun _ st => .ok true st) (eBin oAdd (eC (.int 1)) (eCall 3 drawF (aCons (eVar 0) (aCons (eVar 1) (aCons (eVar 3) aNil))))) [4])) aNil))))
def p__law_lots : Fn := runF 4
    (sSeq (sSet 1 (eFz (fDisp (aCons (eTup aNil) aNil))))
    (sSeq (sFor (iRange1 (aCons (eVar 0) aNil)) (gNm 2) (sSet 1 (eBin oAdd (eVar 1) (eFz (fComp (iVal (eVar 1)) (gNm 3) (fun _ st => .ok true st) (eBin oAdd (eVar 3) (eTup (aCons (eVar 2) aNil))) [3])))))
    (sRet (eFz (fSorted (eVar 1))))))
def p__law_weight : Fn := runF 3
    (sRet (eCB oSum (aCons (eFz (fComp (iVal (eVar 1)) (gNm 2) (fun _ st => .ok true st) (eBin oIx (eVar 0) (eVar 2)) [2])) aNil)))
def p__law_comparison : Fn := runF 9
    (sSeq (sSet 4 (eCall 1 p__law_lots (aCons (eVar 2) aNil)))
    (sSeq (sPar 5 6 (aCons (eCall 3 p__law_pick (aCons (eVar 0) (aCons (eVar 1) (aCons (eVar 4) aNil)))) (aCons (eCall 3 p__law_pick (aCons (eVar 0) (aCons (eVar 1) (aCons (eVar 4) aNil)))) aNil)))
    (sSeq (sSet 7 (eCall 3 p__law_pick (aCons (eVar 0) (aCons (eVar 1) (aCons (eFz (fDisp (aCons (eC (.str ">")) (aCons (eC (.str ">")) (aCons (eC (.str ">=")) (aCons (eC (.str "=")) aNil)))))) aNil)))))
    (sSeq (sIf (tE (eBin oGtI (eCall 3 drawF (aCons (eVar 0) (aCons (eVar 1) (aCons (eC (.int 6)) aNil)))) (eC (.int 0)))) (sSeq (sSet 8 (eBin oSub (eCall 2 p__law_weight (aCons (eVar 3) (aCons (eVar 5) aNil))) (eCall 2 p__law_weight (aCons (eVar 3) (aCons (eVar 6) aNil)))))
    (sSeq (sAsg (eIf (tE (eBin oGeI (eVar 8) (eC (.int 0)))) (eTup (aCons (eVar 5) (aCons (eVar 6) aNil))) (eTup (aCons (eVar 6) (aCons (eVar 5) aNil)))) (gTp 2 (gsCons (gNm 5) (gsCons (gNm 6) gsNil))))
    (sSet 7 (eIf (tOrF (tAndF (tE (eBin oEq (eVar 8) (eC (.int 0)))) (tE (eBin oNe (eVar 7) (eC (.str ">"))))) (tAndF (tE (eBin oNe (eVar 8) (eC (.int 0)))) (tE (eBin oNe (eVar 7) (eC (.str "=")))))) (eVar 7) (eC (.str ">=")))))) sNil)
    (sRet (eTup (aCons (eVar 5) (aCons (eVar 7) (aCons (eVar 6) aNil)))))))))
def p__law_told : Fn := runF 6
    (sSeq (sSet 4 (eCall 3 p__law_scale (aCons (eVar 0) (aCons (eVar 1) (aCons (eVar 2) aNil)))))
    (sRet (eCB oTuple (aCons (eFz (fComp (iRange1 (aCons (eCall 3 drawF (aCons (eVar 0) (aCons (eVar 1) (aCons (eBin oAdd (eVar 3) (eC (.int 1))) aNil)))) aNil)) (gNm 5) (fun _ st => .ok true st) (eCall 4 p__law_comparison (aCons (eVar 0) (aCons (eVar 1) (aCons (eVar 2) (aCons (eVar 4) aNil))))) [5])) aNil))))
def p_are_told : Fn := runF 3
    (sRet (eAnd (eIsi .tup (eVar 1)) (eAnd (eBin oLeI (eCB oLen (aCons (eVar 1) aNil)) (eC (.int 8))) (eCB oAll (aCons (eFz (fComp (iVal (eVar 1)) (gNm 2) (fun _ st => .ok true st) (eCall 2 p_is_comparison (aCons (eVar 0) (aCons (eVar 2) aNil))) [2])) aNil)))))
def p_check_told : Fn := runF 2
    (sSeq (sDrop (eCall 1 p_check_things (aCons (eVar 0) aNil)))
    (sIf (tNotF (tE (eCall 2 p_are_told (aCons (eVar 0) (aCons (eVar 1) aNil))))) (sRaise "InvalidTold") sNil))
def p_found_weight : Fn := runF 3
    (sRet (eCB oSum (aCons (eFz (fComp (iVal (eVar 1)) (gNm 2) (fun _ st => .ok true st) (eBin oIx (eVar 0) (eVar 2)) [2])) aNil)))
def p_does_hold : Fn := runF 6
    (sSeq (sAsg (eVar 1) (gTp 3 (gsCons (gNm 2) (gsCons (gNm 3) (gsCons (gNm 4) gsNil)))))
    (sSeq (sSet 5 (eBin oSub (eCall 2 p_found_weight (aCons (eVar 0) (aCons (eVar 2) aNil))) (eCall 2 p_found_weight (aCons (eVar 0) (aCons (eVar 4) aNil)))))
    (sRet (eIf (tE (eBin oNe (eVar 3) (eC (.str "=")))) (eOr (eBin oGtI (eVar 5) (eC (.int 0))) (eAnd (eBin oEq (eVar 5) (eC (.int 0))) (eBin oNe (eVar 3) (eC (.str ">"))))) (eBin oEq (eVar 5) (eC (.int 0)))))))
def p_do_agree : Fn := runF 3
    (sRet (eCB oAll (aCons (eFz (fComp (iVal (eVar 0)) (gNm 2) (fun _ st => .ok true st) (eCall 2 p_does_hold (aCons (eVar 1) (aCons (eVar 2) aNil))) [2])) aNil)))
def p__law_holds : Fn := runF 6
    (sSeq (sAsg (eVar 1) (gTp 3 (gsCons (gNm 2) (gsCons (gNm 3) (gsCons (gNm 4) gsNil)))))
    (sSeq (sSet 5 (eBin oSub (eCall 2 p__law_weight (aCons (eVar 0) (aCons (eVar 2) aNil))) (eCall 2 p__law_weight (aCons (eVar 0) (aCons (eVar 4) aNil)))))
    (sSeq (sIf (tE (eBin oEq (eVar 3) (eC (.str "=")))) (sRet (eBin oEq (eVar 5) (eC (.int 0)))) sNil)
    (sRet (eOr (eBin oGtI (eVar 5) (eC (.int 0))) (eAnd (eBin oEq (eVar 3) (eC (.str ">="))) (eBin oEq (eVar 5) (eC (.int 0)))))))))
def p__law_agree : Fn := runF 3
    (sRet (eBin oEq (eFz (fComp (iVal (eVar 0)) (gNm 2) (tNotF (tE (eCall 2 p__law_holds (aCons (eVar 1) (aCons (eVar 2) aNil))))) (eVar 2) [2])) (eFz (fDisp aNil))))
def p_some_numbers : Fn := runF 6
    (sSeq (sSet 2 (eFz (fDisp (aCons (eTup aNil) aNil))))
    (sSeq (sFor (iRange1 (aCons (eVar 1) aNil)) (gNm 3) (sSet 2 (eFz (fComp2 (iVal (eVar 2)) (gNm 4) (fun _ st => .ok true st) (iRange1 (aCons (eVar 0) aNil)) (gNm 5) (tOrF (tE (eBin oEq (eVar 4) (eTup aNil))) (tE (eBin oLt (eBin oIx (eVar 4) (eUn oNeg (eC (.int 1)))) (eVar 5)))) (eBin oAdd (eVar 4) (eTup (aCons (eVar 5) aNil))) [4, 5] [5]))))
    (sRet (eVar 2))))
def p__law_sets : Fn := runF 7
    (sSeq (sSet 2 (eFz (fDisp (aCons (eTup aNil) aNil))))
    (sSeq (sFor (iRange1 (aCons (eVar 1) aNil)) (gNm 3) (sSeq (sSet 4 (eFz (fDisp aNil)))
    (sSeq (sFor (iVal (eVar 2)) (gNm 5) (sSet 4 (eBin oAdd (eVar 4) (eFz (fComp (iRange1 (aCons (eVar 0) aNil)) (gNm 6) (tOrF (tE (eBin oEq (eVar 5) (eTup aNil))) (tE (eBin oLt (eBin oIx (eVar 5) (eUn oNeg (eC (.int 1)))) (eVar 6)))) (eBin oAdd (eVar 5) (eTup (aCons (eVar 6) aNil))) [6])))))
    (sSet 2 (eVar 4)))))
    (sRet (eVar 2))))
def p__law_name : Fn := runF 2
    (sSeq (sIf (tNotF (tE (eIsE (excIs "ValueError") excs (eVar 0)))) (sRet (eUn oNeg (eC (.int 1)))) sNil)
    (sSeq (sSet 1 (eFz (fDisp (aCons (eIsE (excIs "InvalidThings") excs (eVar 0)) (aCons (eIsE (excIs "InvalidTold") excs (eVar 0)) aNil)))))
    (sSeq (sSet 1 (eBin oAdd (eVar 1) (eFz (fDisp (aCons (eIsE (excIs "InvalidWeights") excs (eVar 0)) (aCons (eIsE (excIs "InvalidLot") excs (eVar 0)) aNil))))))
    (sSeq (sSet 1 (eBin oAdd (eVar 1) (eFz (fDisp (aCons (eIsE (excIs "InvalidComparison") excs (eVar 0)) (aCons (eIsE (excIs "InvalidNumber") excs (eVar 0)) aNil))))))
    (sSeq (sSet 1 (eBin oAdd (eVar 1) (eFz (fDisp (aCons (eIsE (excIs "InvalidText") excs (eVar 0)) (aCons (eIsE (excIs "NotSure") excs (eVar 0)) aNil))))))
    (sSeq (sSet 1 (eBin oAdd (eVar 1) (eFz (fDisp (aCons (eIsE (excIs "NoneAgree") excs (eVar 0)) (aCons (eIsE (excIs "TooMany") excs (eVar 0)) aNil))))))
    (sSeq (sSet 1 (eBin oAdd (eVar 1) (eFz (fDisp (aCons (eIsE (excIs "NothingToUndo") excs (eVar 0)) aNil)))))
    (sRet (eIf (tE (eBin oEq (eLr goCount (eVar 1) (aCons (eC (.bl true)) aNil)) (eC (.int 1)))) (eLr goIndex (eVar 1) (aCons (eC (.bl true)) aNil)) (eUn oNeg (eC (.int 1))))))))))))
def p__law_raises : Fn := runF 2
    (sSeq (sSet 1 (eFz (fDisp (aCons (eC (.str "things")) (aCons (eC (.str "told")) (aCons (eC (.str "weights")) (aCons (eC (.str "lot")) (aCons (eC (.str "comparison")) (aCons (eC (.str "number")) aNil)))))))))
    (sSeq (sSet 1 (eBin oAdd (eVar 1) (eFz (fDisp (aCons (eC (.str "text")) (aCons (eC (.str "not_sure")) (aCons (eC (.str "none_agree")) (aCons (eC (.str "many")) (aCons (eC (.str "undo")) aNil)))))))))
    (sRet (eTup (aCons (eC (.str "raised")) (aCons (eLr goIndex (eVar 1) (aCons (eVar 0) aNil)) aNil))))))
def p_small_weights : Fn := runF 8
    (sSeq (sSet 2 (eFz (fDisp (aCons (eTup aNil) aNil))))
    (sSeq (sFor (iRange1 (aCons (eVar 0) aNil)) (gNm 3) (sSet 2 (eFz (fComp2 (iVal (eVar 2)) (gNm 4) (fun _ st => .ok true st) (iRange2 (aCons (eC (.int 1)) (aCons (eBin oAdd (eVar 1) (eC (.int 1))) aNil))) (gNm 5) (fun _ st => .ok true st) (eBin oAdd (eVar 4) (eTup (aCons (eVar 5) aNil))) [4, 5] [5]))))
    (sRet (eFz (fComp (iVal (eFz (fSorted (eFz (fComp (iVal (eVar 2)) (gNm 4) (fun _ st => .ok true st) (eTup (aCons (eCB oSumA (aCons (eVar 4) aNil)) (aCons (eVar 4) aNil))) [4]))))) (gTp 2 (gsCons (gNm 6) (gsCons (gNm 7) gsNil))) (fun _ st => .ok true st) (eVar 7) [6, 7])))))
def p_all_lots : Fn := runF 4
    (sSeq (sSet 1 (eFz (fDisp (aCons (eTup aNil) aNil))))
    (sSeq (sFor (iRange1 (aCons (eVar 0) aNil)) (gNm 2) (sSet 1 (eBin oAdd (eVar 1) (eFz (fComp (iVal (eVar 1)) (gNm 3) (fun _ st => .ok true st) (eBin oAdd (eVar 3) (eTup (aCons (eVar 2) aNil))) [3])))))
    (sRet (eFz (fSorted (eVar 1))))))
def p_all_questions : Fn := runF 7
    (sSeq (sSet 1 (eFz (fComp (iVal (eCall 1 p_all_lots (aCons (eVar 0) aNil))) (gNm 4) (tE (eBin oNe (eVar 4) (eTup aNil))) (eVar 4) [4])))
    (sSeq (sSet 2 (eOw (fDisp aNil)))
    (sSeq (sFor (iVal (eVar 1)) (gNm 3) (sDrop (eLm goExt (eVar 2) (aCons (eFz (fComp (iVal (eVar 1)) (gNm 5) (tAndF (tE (eBin oLt (eVar 3) (eVar 5))) (tNotF (tE (eCB oAny (aCons (eFz (fComp (iVal (eVar 3)) (gNm 6) (fun _ st => .ok true st) (eBin oIn (eVar 6) (eVar 5)) [6])) aNil))))) (eTup (aCons (eVar 3) (aCons (eVar 5) aNil))) [5])) aNil))))
    (sRet (eFrz (eVar 2))))))
def p_answer_of : Fn := runF 3
    (sSeq (sSet 2 (eBin oSub (eCall 2 p_found_weight (aCons (eVar 1) (aCons (eBin oIx (eVar 0) (eC (.int 0))) aNil))) (eCall 2 p_found_weight (aCons (eVar 1) (aCons (eBin oIx (eVar 0) (eC (.int 1))) aNil)))))
    (sRet (eIf (tE (eBin oGtI (eVar 2) (eC (.int 0)))) (eC (.str ">")) (eIf (tE (eBin oEq (eVar 2) (eC (.int 0)))) (eC (.str "=")) (eC (.str "<"))))))
end Lq
end
section
set_option Elab.async false
set_option linter.all false
namespace Sx
def sm : Nat → (Nat → Rat) → Rat
  | 0, _ => 0
  | n + 1, f => sm n f + f n
theorem sm_congr {f g : Nat → Rat} : ∀ {n : Nat}, (∀ j, j < n → f j = g j) → sm n f = sm n g
  | 0, _ => rfl
  | n + 1, h => by rw [sm, sm, sm_congr fun j hj => h j (by omega), h n (by omega)]
theorem sm_zero {f : Nat → Rat} : ∀ {n : Nat}, (∀ j, j < n → f j = 0) → sm n f = 0
  | 0, _ => rfl
  | n + 1, h => by rw [sm, sm_zero fun j hj => h j (by omega), h n (by omega)]; grind
theorem sm_add (f g : Nat → Rat) : ∀ n : Nat, sm n (fun j => f j + g j) = sm n f + sm n g
  | 0 => by simp only [sm]; grind
  | n + 1 => by simp only [sm, sm_add f g n]; grind
theorem sm_mul (a : Rat) (f : Nat → Rat) : ∀ n : Nat, sm n (fun j => a * f j) = a * sm n f
  | 0 => by simp only [sm]; grind
  | n + 1 => by simp only [sm, sm_mul a f n]; grind
theorem sm_sub (f g : Nat → Rat) : ∀ n : Nat, sm n (fun j => f j - g j) = sm n f - sm n g
  | 0 => by simp only [sm]; grind
  | n + 1 => by simp only [sm, sm_sub f g n]; grind
theorem sm_one {f : Nat → Rat} {k : Nat} : ∀ {n : Nat}, k < n → (∀ j, j < n → j ≠ k → f j = 0) → sm n f = f k
  | n + 1, hk, h => by
    rw [sm]
    by_cases e : k = n
    · subst e
      rw [sm_zero fun j hj => h j (by omega) (by omega)]; grind
    · rw [sm_one (k := k) (by omega) fun j hj => h j (by omega), h n (by omega) (by omega)]; grind
theorem sm_neg {f : Nat → Rat} : ∀ {n : Nat}, sm n f < 0 → ∃ j, j < n ∧ f j < 0
  | 0, h => by simp only [sm] at h; grind
  | n + 1, h => by
    rw [sm] at h
    by_cases z : f n < 0
    · exact ⟨n, by omega, z⟩
    · obtain ⟨j, hj, w⟩ := sm_neg (f := f) (n := n) (by grind)
      exact ⟨j, by omega, w⟩
theorem sm_comm (f : Nat → Nat → Rat) (n : Nat) : ∀ m : Nat, sm m (fun i => sm n (f i)) = sm n (fun j => sm m (fun i => f i j))
  | 0 => by simp only [sm]; rw [sm_zero fun _ _ => rfl]
  | m + 1 => by simp only [sm, sm_comm f n m, sm_add]
structure Tb where
  t : Nat → Nat → Rat
  r : Nat → Rat
  c : Nat → Rat
  z : Rat
  b : Nat → Nat
variable {m n k : Nat}
structure Inv (m n : Nat) (S : Tb) : Prop where
  bn : ∀ i, i < m → S.b i < n
  one : ∀ i, i < m → S.t i (S.b i) = 1
  off : ∀ i h, i < m → h < m → h ≠ i → S.t h (S.b i) = 0
  cz : ∀ i, i < m → S.c (S.b i) = 0
  rp : ∀ i, i < m → 0 ≤ S.r i
def Sol (m n : Nat) (S : Tb) (x : Nat → Rat) : Prop := ∀ i, i < m → sm n (fun j => S.t i j * x j) = S.r i
def Ker (m n : Nat) (S : Tb) (x : Nat → Rat) : Prop := ∀ i, i < m → sm n (fun j => S.t i j * x j) = 0
structure Step (m n k : Nat) (S S' : Tb) (e l : Nat) : Prop where
  ek : e < k
  kn : k ≤ n
  ce : S.c e < 0
  first : ∀ j, j < e → 0 ≤ S.c j
  lm : l < m
  pos : 0 < S.t l e
  ratio : ∀ i, i < m → 0 < S.t i e → S.r l * S.t i e ≤ S.r i * S.t l e
  tie : ∀ i, i < m → 0 < S.t i e → S.r l * S.t i e = S.r i * S.t l e → S.b l ≤ S.b i
  tl : ∀ j, S'.t l j = S.t l j / S.t l e
  rl : S'.r l = S.r l / S.t l e
  ti : ∀ i, i < m → i ≠ l → ∀ j, S'.t i j = S.t i j - S.t i e * (S.t l j / S.t l e)
  ri : ∀ i, i < m → i ≠ l → S'.r i = S.r i - S.t i e * (S.r l / S.t l e)
  cj : ∀ j, S'.c j = S.c j - S.c e * (S.t l j / S.t l e)
  zz : S'.z = S.z - S.c e * (S.r l / S.t l e)
  bl : S'.b l = e
  bi : ∀ i, i ≠ l → S'.b i = S.b i
theorem Inv.inj {S : Tb} (I : Inv m n S) {i h : Nat} (hi : i < m) (hh : h < m) (e : S.b i = S.b h) : i = h := by
  refine Classical.byContradiction fun ne => ?_
  have a := I.off i h hi hh (Ne.symm ne)
  rw [e, I.one h hh] at a
  grind
theorem Step.ne {S S' : Tb} {e l : Nat} (I : Inv m n S) (T : Step m n k S S' e l) {i : Nat} (hi : i < m) : S.b i ≠ e := fun h => by
  have := I.cz i hi
  rw [h] at this
  have := T.ce
  grind
theorem div_pos' {a b : Rat} (ha : 0 ≤ a) (hb : 0 < b) : 0 ≤ a / b := by
  rw [Rat.div_def]
  exact Rat.mul_nonneg ha (Rat.le_of_lt (Rat.inv_pos.mpr hb))
theorem Step.inv {S S' : Tb} {e l : Nat} (I : Inv m n S) (T : Step m n k S S' e l) : Inv m n S' := by
  have p := T.pos
  have p0 : S.t l e ≠ 0 := by grind
  have zl : ∀ i, i < m → i ≠ l → S.t l (S.b i) = 0 := fun i hi ne => I.off i l hi T.lm (Ne.symm ne)
  refine ⟨fun i hi => ?_, fun i hi => ?_, fun i h hi hh ne => ?_, fun i hi => ?_, fun i hi => ?_⟩
  · by_cases x : i = l
    · rw [x, T.bl]; have := T.ek; have := T.kn; omega
    · rw [T.bi i x]; exact I.bn i hi
  · by_cases x : i = l
    · rw [x, T.bl, T.tl]; grind
    · rw [T.bi i x, T.ti i hi x, I.one i hi, zl i hi x]; grind
  · by_cases x : i = l
    · subst x
      rw [T.bl, T.ti h hh ne]; grind
    · rw [T.bi i x]
      by_cases y : h = l
      · rw [y, T.tl, zl i hi x]; grind
      · rw [T.ti h hh y, I.off i h hi hh ne, zl i hi x]; grind
  · by_cases x : i = l
    · rw [x, T.bl, T.cj]; grind
    · rw [T.bi i x, T.cj, I.cz i hi, zl i hi x]; grind
  · by_cases x : i = l
    · rw [x, T.rl]; exact div_pos' (I.rp l T.lm) p
    · rw [T.ri i hi x]
      have q := div_pos' (I.rp l T.lm) p
      by_cases s : 0 < S.t i e
      · have u := T.ratio i hi s
        have v : S.r l / S.t l e * S.t l e = S.r l := by grind
        have w : (S.t i e * (S.r l / S.t l e)) * S.t l e ≤ S.r i * S.t l e := by
          have : (S.t i e * (S.r l / S.t l e)) * S.t l e = S.r l * S.t i e := by grind
          rw [this]; exact u
        have z : ¬ S.r i < S.t i e * (S.r l / S.t l e) := fun z => by
          have := Rat.mul_lt_mul_of_pos_right z p
          grind
        grind
      · have a : 0 ≤ (- S.t i e) * (S.r l / S.t l e) := Rat.mul_nonneg (by grind) q
        have b := I.rp i hi
        grind
theorem Step.ker {S S' : Tb} {e l : Nat} (T : Step m n k S S' e l) {x : Nat → Rat} (h : Ker m n S x) : Ker m n S' x := fun i hi => by
  by_cases y : i = l
  · subst y
    rw [sm_congr (g := fun j => (1 / S.t i e) * (S.t i j * x j)) fun j _ => by rw [T.tl]; grind, sm_mul, h i hi]; grind
  · rw [sm_congr (g := fun j => S.t i j * x j - (S.t i e / S.t l e) * (S.t l j * x j)) fun j _ => by rw [T.ti i hi y]; grind, sm_sub, sm_mul, h i hi, h l T.lm]; grind
theorem Step.sol {S S' : Tb} {e l : Nat} (T : Step m n k S S' e l) {x : Nat → Rat} (h : Sol m n S x) : Sol m n S' x := fun i hi => by
  by_cases y : i = l
  · subst y
    rw [sm_congr (g := fun j => (1 / S.t i e) * (S.t i j * x j)) fun j _ => by rw [T.tl]; grind, sm_mul, h i hi, T.rl]; grind
  · rw [sm_congr (g := fun j => S.t i j * x j - (S.t i e / S.t l e) * (S.t l j * x j)) fun j _ => by rw [T.ti i hi y]; grind, sm_sub, sm_mul, h i hi, h l T.lm, T.ri i hi y]; grind
theorem Step.ker' {S S' : Tb} {e l : Nat} (T : Step m n k S S' e l) {x : Nat → Rat} (h : Ker m n S' x) : Ker m n S x := by
  have p := T.pos
  have p0 : S.t l e ≠ 0 := by grind
  have hl : sm n (fun j => S.t l j * x j) = 0 := by
    have := h l T.lm
    rw [sm_congr (g := fun j => (1 / S.t l e) * (S.t l j * x j)) fun j _ => by rw [T.tl]; grind, sm_mul] at this
    grind
  intro i hi
  by_cases y : i = l
  · rw [y]; exact hl
  · have := h i hi
    rw [sm_congr (g := fun j => S.t i j * x j - (S.t i e / S.t l e) * (S.t l j * x j)) fun j _ => by rw [T.ti i hi y]; grind, sm_sub, sm_mul, hl] at this
    grind
theorem Step.cker {S S' : Tb} {e l : Nat} (T : Step m n k S S' e l) {x : Nat → Rat} (h : Ker m n S x) : sm n (fun j => S'.c j * x j) = sm n (fun j => S.c j * x j) := by
  rw [sm_congr (g := fun j => S.c j * x j - (S.c e / S.t l e) * (S.t l j * x j)) fun j _ => by rw [T.cj]; grind, sm_sub, sm_mul, h l T.lm]; grind
theorem Step.csol {S S' : Tb} {e l : Nat} (T : Step m n k S S' e l) {x : Nat → Rat} (h : Sol m n S x) : sm n (fun j => S'.c j * x j) - S'.z = sm n (fun j => S.c j * x j) - S.z := by
  rw [sm_congr (g := fun j => S.c j * x j - (S.c e / S.t l e) * (S.t l j * x j)) fun j _ => by rw [T.cj]; grind, sm_sub, sm_mul, h l T.lm, T.zz]; grind
end Sx
end
section
set_option Elab.async false
set_option linter.all false
namespace Sx
variable {m n k : Nat}
def bsol (m : Nat) (S : Tb) (j : Nat) : Rat := sm m fun i => if S.b i = j then S.r i else 0
def Bas (m : Nat) (S : Tb) (j : Nat) : Prop := ∃ i, i < m ∧ S.b i = j
theorem bsol_at {S : Tb} (I : Inv m n S) {i : Nat} (hi : i < m) : bsol m S (S.b i) = S.r i := by
  rw [bsol, sm_one hi fun h hh ne => if_neg fun e => ne (I.inj hh hi e), if_pos rfl]
theorem bsol_off {S : Tb} {j : Nat} (h : ¬ Bas m S j) : bsol m S j = 0 := by
  rw [bsol, sm_zero fun i hi => if_neg fun e => h ⟨i, hi, e⟩]
theorem sm_bas {S : Tb} (I : Inv m n S) (f g : Nat → Rat) : sm n (fun j => f j * sm m (fun i => if S.b i = j then g i else 0)) = sm m (fun i => f (S.b i) * g i) := by
  rw [sm_congr (g := fun j => sm m (fun i => f j * (if S.b i = j then g i else 0))) fun j _ => by rw [sm_mul], ← sm_comm]
  refine sm_congr fun i hi => ?_
  rw [sm_one (I.bn i hi) fun j _ ne => by rw [if_neg (Ne.symm ne)]; grind, if_pos rfl]
theorem bsol_sol {S : Tb} (I : Inv m n S) : Sol m n S (bsol m S) := fun i hi => by
  unfold bsol
  rw [sm_bas I, sm_one hi fun h hh ne => by rw [I.off h i hh hi (Ne.symm ne)]; grind, I.one i hi]; grind
theorem bsol_c {S : Tb} (I : Inv m n S) : sm n (fun j => S.c j * bsol m S j) = 0 := by
  unfold bsol
  rw [sm_bas I, sm_zero fun i hi => by rw [I.cz i hi]; grind]
def way (m : Nat) (S : Tb) (e j : Nat) : Rat := (if j = e then 1 else 0) - sm m fun i => if S.b i = j then S.t i e else 0
theorem sm_way {S : Tb} (I : Inv m n S) {e : Nat} (he : e < n) (f : Nat → Rat) : sm n (fun j => f j * way m S e j) = f e - sm m (fun i => f (S.b i) * S.t i e) := by
  unfold way
  rw [sm_congr (g := fun j => f j * (if j = e then 1 else 0) - f j * sm m (fun i => if S.b i = j then S.t i e else 0)) fun j _ => by grind, sm_sub, sm_bas I f, sm_one he fun j _ ne => by rw [if_neg ne]; grind, if_pos rfl]
  grind
theorem way_ker {S : Tb} (I : Inv m n S) {e : Nat} (he : e < n) : Ker m n S (way m S e) := fun i hi => by
  rw [sm_way I he, sm_one hi fun h hh ne => by rw [I.off h i hh hi (Ne.symm ne)]; grind, I.one i hi]; grind
theorem way_c {S : Tb} (I : Inv m n S) {e : Nat} (he : e < n) : sm n (fun j => S.c j * way m S e j) = S.c e := by
  rw [sm_way I he, sm_zero fun i hi => by rw [I.cz i hi]; grind]; grind
theorem way_at {S : Tb} (I : Inv m n S) {e i : Nat} (hi : i < m) (ne : S.b i ≠ e) : way m S e (S.b i) = - S.t i e := by
  rw [way, if_neg ne, sm_one hi fun h hh x => if_neg fun y => x (I.inj hh hi y), if_pos rfl]; grind
theorem way_off {S : Tb} {e j : Nat} (h : ¬ Bas m S j) : way m S e j = if j = e then 1 else 0 := by
  rw [way, sm_zero fun i hi => if_neg fun y => h ⟨i, hi, y⟩]; grind
structure Run (m n k : Nat) (S : Nat → Tb) (e l : Nat → Nat) (L : Nat) : Prop where
  inv : Inv m n (S 0)
  step : ∀ p, p < L → Step m n k (S p) (S (p + 1)) (e p) (l p)
variable {S : Nat → Tb} {e l : Nat → Nat} {L : Nat}
theorem Run.invs (R : Run m n k S e l L) : ∀ p, p ≤ L → Inv m n (S p)
  | 0, _ => R.inv
  | p + 1, h => (R.step p (by omega)).inv (R.invs p (by omega))
theorem Run.sols (R : Run m n k S e l L) {x : Nat → Rat} {p : Nat} (hx : Sol m n (S p) x) : ∀ d, p + d ≤ L → Sol m n (S (p + d)) x ∧ sm n (fun j => (S (p + d)).c j * x j) - (S (p + d)).z = sm n (fun j => (S p).c j * x j) - (S p).z
  | 0, _ => ⟨hx, rfl⟩
  | d + 1, h => by
    obtain ⟨a, b⟩ := R.sols hx d (by omega)
    have T := R.step (p + d) (by omega)
    exact ⟨T.sol a, (T.csol a).trans b⟩
theorem Run.kers (R : Run m n k S e l L) {x : Nat → Rat} {p : Nat} (hx : Ker m n (S p) x) : ∀ d, p + d ≤ L → Ker m n (S (p + d)) x ∧ sm n (fun j => (S (p + d)).c j * x j) = sm n (fun j => (S p).c j * x j)
  | 0, _ => ⟨hx, rfl⟩
  | d + 1, h => by
    obtain ⟨a, b⟩ := R.kers hx d (by omega)
    have T := R.step (p + d) (by omega)
    exact ⟨T.ker a, (T.cker a).trans b⟩
theorem Run.kers' (R : Run m n k S e l L) {x : Nat → Rat} {p : Nat} : ∀ d, p + d ≤ L → Ker m n (S (p + d)) x → Ker m n (S p) x
  | 0, _, h => h
  | d + 1, h, hx => R.kers' d (by omega) ((R.step (p + d) (by omega)).ker' hx)
theorem Run.ck (R : Run m n k S e l L) {x : Nat → Rat} {p q : Nat} (hp : p ≤ L) (hq : q ≤ L) (hx : Ker m n (S p) x) : sm n (fun j => (S q).c j * x j) = sm n (fun j => (S p).c j * x j) := by
  by_cases h : p ≤ q
  · have := (R.kers hx (q - p) (by omega)).2
    rwa [show p + (q - p) = q by omega] at this
  · have e : q + (p - q) = p := by omega
    have hk : Ker m n (S q) x := R.kers' (p := q) (p - q) (by omega) (by rw [e]; exact hx)
    have := (R.kers hk (p - q) (by omega)).2
    rw [e] at this
    exact this.symm
theorem Step.zle {S S' : Tb} {e l : Nat} (I : Inv m n S) (T : Step m n k S S' e l) : S.z ≤ S'.z ∧ (S'.z = S.z → S.r l = 0) := by
  have q := div_pos' (I.rp l T.lm) T.pos
  have c := T.ce
  have p := T.pos
  have a : 0 ≤ (- S.c e) * (S.r l / S.t l e) := Rat.mul_nonneg (by grind) q
  have z := T.zz
  refine ⟨by grind, fun h => ?_⟩
  have : S.c e * (S.r l / S.t l e) = 0 := by grind
  rcases Rat.mul_eq_zero.mp this with w | w
  · grind
  · have : S.r l / S.t l e * S.t l e = S.r l := by grind
    grind
theorem Run.zle (R : Run m n k S e l L) {p : Nat} : ∀ d, p + d ≤ L → (S p).z ≤ (S (p + d)).z
  | 0, _ => by simp only [Nat.add_zero]; grind
  | d + 1, h => by
    have a := R.zle (p := p) d (by omega)
    have b := ((R.step (p + d) (by omega)).zle (R.invs _ (by omega))).1
    show (S p).z ≤ (S (p + d + 1)).z
    grind
theorem Step.bas_new {S S' : Tb} {e l : Nat} (T : Step m n k S S' e l) {j : Nat} (h : Bas m S' j) : Bas m S j ∨ j = e := by
  obtain ⟨i, hi, rfl⟩ := h
  by_cases x : i = l
  · rw [x, T.bl]; exact .inr rfl
  · rw [T.bi i x]; exact .inl ⟨i, hi, rfl⟩
theorem Step.bas_old {S S' : Tb} {e l : Nat} (T : Step m n k S S' e l) {j : Nat} (h : Bas m S j) : Bas m S' j ∨ j = S.b l := by
  obtain ⟨i, hi, rfl⟩ := h
  by_cases x : i = l
  · rw [x]; exact .inr rfl
  · exact .inl ⟨i, hi, T.bi i x⟩
theorem Run.comes (R : Run m n k S e l L) {p j : Nat} (hp : ¬ Bas m (S p) j) : ∀ d, p + d ≤ L → Bas m (S (p + d)) j → ∃ s, p ≤ s ∧ s < p + d ∧ e s = j
  | 0, _, h => absurd h hp
  | d + 1, hd, h => by
    rcases (R.step (p + d) (by omega)).bas_new h with w | w
    · obtain ⟨s, a, b, c⟩ := R.comes hp d (by omega) w
      exact ⟨s, a, by omega, c⟩
    · exact ⟨p + d, by omega, by omega, w.symm⟩
theorem Run.goes (R : Run m n k S e l L) {p j : Nat} (hp : Bas m (S p) j) : ∀ d, p + d ≤ L → ¬ Bas m (S (p + d)) j → ∃ s, p ≤ s ∧ s < p + d ∧ (S s).b (l s) = j
  | 0, _, h => absurd hp h
  | d + 1, hd, h => by
    by_cases w : Bas m (S (p + d)) j
    · rcases (R.step (p + d) (by omega)).bas_old w with v | v
      · exact absurd v h
      · exact ⟨p + d, by omega, by omega, v.symm⟩
    · obtain ⟨s, a, b, c⟩ := R.goes hp d (by omega) w
      exact ⟨s, a, by omega, c⟩
theorem greatest (f : Nat → Nat) (p : Nat) : ∀ d, ∃ s, p ≤ s ∧ s < p + (d + 1) ∧ ∀ u, p ≤ u → u < p + (d + 1) → f u ≤ f s
  | 0 => ⟨p, by omega, by omega, fun u a b => by rw [show u = p by omega]; exact Nat.le_refl _⟩
  | d + 1 => by
    obtain ⟨s, a, b, c⟩ := greatest f p d
    by_cases h : f (p + (d + 1)) ≤ f s
    · refine ⟨s, a, by omega, fun u x y => ?_⟩
      by_cases z : u = p + (d + 1)
      · rw [z]; exact h
      · exact c u x (by omega)
    · refine ⟨p + (d + 1), by omega, by omega, fun u x y => ?_⟩
      by_cases z : u = p + (d + 1)
      · rw [z]; exact Nat.le_refl _
      · have := c u x (by omega); omega
theorem Run.no_return (R : Run m n k S e l L) {p q : Nat} (pq : p < q) (ql : q ≤ L) : ¬ ∀ j, Bas m (S p) j ↔ Bas m (S q) j := by
  intro same
  have Ip := R.invs p (by omega)
  have Iq := R.invs q ql
  -- nothing moves
  have zz : (S q).z = (S p).z := by
    have a := (R.sols (bsol_sol Ip) (q - p) (by omega)).2
    rw [show p + (q - p) = q by omega, bsol_c Ip] at a
    have b : sm n (fun j => (S q).c j * bsol m (S p) j) = 0 := sm_zero fun j hj => by
      by_cases h : Bas m (S q) j
      · obtain ⟨i, hi, rfl⟩ := h
        rw [Iq.cz i hi]; grind
      · rw [bsol_off fun w => h ((same j).mp w)]; grind
    rw [b] at a
    grind
  have r0 : ∀ s, p ≤ s → s < q → (S s).r (l s) = 0 := fun s a b => by
    have x := R.zle (p := p) (s - p) (by omega)
    have y := R.zle (p := s + 1) (q - (s + 1)) (by omega)
    rw [show p + (s - p) = s by omega] at x
    rw [show s + 1 + (q - (s + 1)) = q by omega] at y
    have z := (R.step s (by omega)).zle (R.invs s (by omega))
    exact z.2 (by grind)
  have bs : ∀ d, p + d ≤ q → ∀ j, bsol m (S (p + d)) j = bsol m (S p) j := fun d => by
    induction d with
    | zero => intro _ j; rfl
    | succ d ih =>
      intro h j
      rw [← ih (by omega) j]
      have T := R.step (p + d) (by omega)
      have z := r0 (p + d) (by omega) (by omega)
      refine sm_congr fun i hi => ?_
      show (if (S (p + d + 1)).b i = j then (S (p + d + 1)).r i else 0) = _
      by_cases x : i = l (p + d)
      · subst x
        rw [T.rl, z]
        split <;> split <;> grind
      · rw [T.bi i x, T.ri i hi x, z]
        split <;> grind
  have bse : ∀ s u, p ≤ s → s ≤ q → p ≤ u → u ≤ q → ∀ j, bsol m (S s) j = bsol m (S u) j := fun s u a b c d j => by
    have x := bs (s - p) (by omega) j
    have y := bs (u - p) (by omega) j
    rw [show p + (s - p) = s by omega] at x
    rw [show p + (u - p) = u by omega] at y
    rw [x, y]
  -- the greatest unknown that comes
  obtain ⟨s2, a2, b2, top⟩ := greatest e p (q - p - 1)
  have T2 := R.step s2 (by omega)
  have I2 := R.invs s2 (by omega)
  have out2 : ¬ Bas m (S s2) (e s2) := fun ⟨i, hi, h⟩ => T2.ne I2 hi h
  have in2 : Bas m (S (s2 + 1)) (e s2) := ⟨l s2, T2.lm, T2.bl⟩
  have fick : ∀ r s, p ≤ s → s ≤ q → Bas m (S s) r → ¬ Bas m (S s2) r → r ≤ e s2 := fun r s x y inn out => by
    have via : ∀ a b, p ≤ a → a ≤ b → b ≤ q → ¬ Bas m (S a) r → Bas m (S b) r → r ≤ e s2 := fun a b h1 h2 h3 h4 h5 => by
      obtain ⟨u, u1, u2, rfl⟩ := R.comes h4 (b - a) (by omega) (by rw [show a + (b - a) = b by omega]; exact h5)
      exact top u (by omega) (by omega)
    by_cases w : s2 ≤ s
    · exact via s2 s a2 w y out inn
    · by_cases v : Bas m (S q) r
      · exact via s2 q a2 (by omega) (Nat.le_refl _) out v
      · exact via p s (Nat.le_refl _) x y (fun h => v ((same r).mp h)) inn
  obtain ⟨s1, a1, b1, le1⟩ : ∃ s, p ≤ s ∧ s < q ∧ (S s).b (l s) = e s2 := by
    by_cases w : Bas m (S q) (e s2)
    · obtain ⟨s, x, y, z⟩ := R.goes ((same _).mpr w) (s2 - p) (by omega) (by rw [show p + (s2 - p) = s2 by omega]; exact out2)
      exact ⟨s, x, by omega, z⟩
    · obtain ⟨s, x, y, z⟩ := R.goes in2 (q - (s2 + 1)) (by omega) (by rw [show s2 + 1 + (q - (s2 + 1)) = q by omega]; exact w)
      exact ⟨s, by omega, by omega, z⟩
  have T1 := R.step s1 (by omega)
  have I1 := R.invs s1 (by omega)
  have e1n : e s1 < n := Nat.lt_of_lt_of_le T1.ek T1.kn
  have e1t : e s1 < e s2 := by
    have x := top s1 a1 (by omega)
    have y : (S s1).b (l s1) ≠ e s1 := T1.ne I1 T1.lm
    omega
  have neg : sm n (fun j => (S s2).c j * way m (S s1) (e s1) j) < 0 := by
    rw [R.ck (p := s1) (q := s2) (by omega) (by omega) (way_ker I1 e1n), way_c I1 e1n]
    exact T1.ce
  obtain ⟨r, rn, rneg⟩ := sm_neg neg
  by_cases rb : Bas m (S s1) r
  · obtain ⟨i, hi, rfl⟩ := rb
    rw [way_at I1 hi (T1.ne I1 hi)] at rneg
    have nb : ¬ Bas m (S s2) ((S s1).b i) := fun ⟨h, hh, w⟩ => by
      have := I2.cz h hh
      rw [w] at this
      rw [this] at rneg
      grind
    have rle := fick _ s1 a1 (by omega) ⟨i, hi, rfl⟩ nb
    by_cases rt : (S s1).b i = e s2
    · have il : i = l s1 := I1.inj hi T1.lm (by rw [rt, le1])
      subst il
      have x := T2.ce
      have y := T1.pos
      rw [rt] at rneg
      have : 0 ≤ (- (S s2).c (e s2)) * (S s1).t (l s1) (e s1) := Rat.mul_nonneg (by grind) (by grind)
      grind
    · have c2 := T2.first ((S s1).b i) (by omega)
      have tp : 0 < (S s1).t i (e s1) := by
        refine Classical.byContradiction fun np => ?_
        have : 0 ≤ (S s2).c ((S s1).b i) * (- (S s1).t i (e s1)) := Rat.mul_nonneg c2 (by grind)
        grind
      have ri : (S s1).r i = 0 := by
        rw [← bsol_at I1 hi, bse s1 s2 a1 (by omega) a2 (by omega), bsol_off nb]
      have := T1.tie i hi tp (by rw [ri, r0 s1 a1 b1]; grind)
      omega
  · rw [way_off rb] at rneg
    by_cases re : r = e s1
    · rw [if_pos re] at rneg
      have := T2.first r (by omega)
      grind
    · rw [if_neg re] at rneg
      grind
end Sx
end
section
set_option Elab.async false
set_option linter.all false
namespace Sx
variable {m n k : Nat}
def enc : Nat → (Nat → Bool) → Nat
  | 0, _ => 0
  | n + 1, f => enc n f + if f n = true then 2 ^ n else 0
theorem enc_lt (f : Nat → Bool) : ∀ n, enc n f < 2 ^ n
  | 0 => by simp [enc]
  | n + 1 => by
    have := enc_lt f n
    rw [enc, Nat.pow_succ]
    split <;> omega
theorem enc_inj {f g : Nat → Bool} : ∀ {n}, enc n f = enc n g → ∀ j, j < n → f j = g j
  | n + 1, h, j, hj => by
    have a := enc_lt f n
    have b := enc_lt g n
    rw [enc, enc] at h
    have e : f n = g n := by
      cases x : f n <;> cases y : g n <;> simp [x, y] at h ⊢ <;> omega
    by_cases w : j = n
    · rw [w, e]
    · rw [e] at h
      exact enc_inj (n := n) (by omega) j (by omega)
theorem pigeons : ∀ (K : Nat) (f : Nat → Nat), (∀ s, s ≤ K → f s < K) → ∃ p q, p < q ∧ q ≤ K ∧ f p = f q
  | 0, f, h => absurd (h 0 (Nat.le_refl _)) (by omega)
  | K + 1, f, h => by
    by_cases w : ∃ p, p ≤ K ∧ f p = f (K + 1)
    · obtain ⟨p, a, b⟩ := w
      exact ⟨p, K + 1, by omega, Nat.le_refl _, b⟩
    · have nv : ∀ s, s ≤ K → f s ≠ f (K + 1) := fun s a b => w ⟨s, a, b⟩
      obtain ⟨p, q, a, b, c⟩ := pigeons K (fun s => if f s = K then f (K + 1) else f s) fun s hs => by
        have x := h s (by omega)
        have y := h (K + 1) (Nat.le_refl _)
        have z := nv s hs
        show (if f s = K then f (K + 1) else f s) < K
        split <;> omega
      refine ⟨p, q, a, by omega, ?_⟩
      have x := nv p (by omega)
      have y := nv q (by omega)
      by_cases u : f p = K <;> by_cases v : f q = K
      · omega
      · rw [if_pos u, if_neg v] at c; omega
      · rw [if_neg u, if_pos v] at c; omega
      · rw [if_neg u, if_neg v] at c; exact c
open Classical in
theorem Run.short {S : Nat → Tb} {e l : Nat → Nat} {L : Nat} (R : Run m n k S e l L) : L < 2 ^ n := by
  refine Classical.byContradiction fun h => ?_
  obtain ⟨p, q, a, b, c⟩ := pigeons (2 ^ n) (fun s => enc n fun j => decide (Bas m (S s) j)) fun s _ => enc_lt _ n
  refine R.no_return (p := p) (q := q) a (by omega) fun j => ?_
  by_cases hj : j < n
  · have := enc_inj c j hj
    exact decide_eq_decide.mp this
  · have x : ∀ s, s ≤ L → ¬ Bas m (S s) j := fun s hs ⟨i, hi, e⟩ => by
      have := (R.invs s hs).bn i hi
      omega
    exact ⟨fun w => absurd w (x p (by omega)), fun w => absurd w (x q (by omega))⟩
end Sx
end
section
set_option Elab.async false
set_option linter.all false
namespace Sx
def si : Nat → (Nat → Int) → Int
  | 0, _ => 0
  | n + 1, f => si n f + f n
theorem si_congr {f g : Nat → Int} : ∀ {n : Nat}, (∀ j, j < n → f j = g j) → si n f = si n g
  | 0, _ => rfl
  | n + 1, h => by rw [si, si, si_congr fun j hj => h j (by omega), h n (by omega)]
theorem si_zero {f : Nat → Int} : ∀ {n : Nat}, (∀ j, j < n → f j = 0) → si n f = 0
  | 0, _ => rfl
  | n + 1, h => by rw [si, si_zero fun j hj => h j (by omega), h n (by omega)]; rfl
theorem si_add (f g : Nat → Int) : ∀ n : Nat, si n (fun j => f j + g j) = si n f + si n g
  | 0 => rfl
  | n + 1 => by simp only [si, si_add f g n]; omega
theorem si_mul (a : Int) (f : Nat → Int) : ∀ n : Nat, si n (fun j => a * f j) = a * si n f
  | 0 => by simp only [si]; omega
  | n + 1 => by simp only [si, si_mul a f n]; grind
theorem si_abs {f : Nat → Int} {K : Nat} : ∀ {n : Nat}, (∀ j, j < n → (f j).natAbs ≤ K) → (si n f).natAbs ≤ n * K
  | 0, _ => by simp [si]
  | n + 1, h => by
    have a := si_abs (f := f) (n := n) fun j hj => h j (by omega)
    have b := h n (by omega)
    rw [si, Nat.succ_mul]
    omega
theorem si_cast (f : Nat → Int) : ∀ n : Nat, ((si n f : Int) : Rat) = sm n (fun j => (f j : Rat))
  | 0 => by simp [si, sm]
  | n + 1 => by rw [si, sm, Rat.intCast_add, si_cast f n]
end Sx
end
section
set_option Elab.async false
set_option linter.all false
namespace Sx
structure It where
  T : Nat → Nat → Int
  C : Nat → Int
  B : Nat → Nat
def It.tb (n : Nat) (I : It) : Tb where
  t i j := (I.T i j : Rat) / (I.T i (I.B i) : Rat)
  r i := (I.T i (n + 1) : Rat) / (I.T i (I.B i) : Rat)
  c j := (I.C j : Rat) / (I.C n : Rat)
  z := (I.C (n + 1) : Rat) / (I.C n : Rat)
  b := I.B
structure IInv (m n : Nat) (I : It) : Prop where
  bn : ∀ i, i < m → I.B i < n
  pos : ∀ i, i < m → 0 < I.T i (I.B i)
  off : ∀ i h, i < m → h < m → h ≠ i → I.T h (I.B i) = 0
  cz : ∀ i, i < m → I.C (I.B i) = 0
  rp : ∀ i, i < m → 0 ≤ I.T i (n + 1)
  sc : ∀ i, i < m → I.T i n = 0
  sp : 0 < I.C n
structure IStep (m n k : Nat) (I I' : It) (e l : Nat) : Prop where
  ek : e < k
  kn : k ≤ n
  ce : I.C e < 0
  first : ∀ j, j < e → 0 ≤ I.C j
  lm : l < m
  pos : 0 < I.T l e
  ratio : ∀ i, i < m → 0 < I.T i e → I.T l (n + 1) * I.T i e ≤ I.T i (n + 1) * I.T l e
  tie : ∀ i, i < m → 0 < I.T i e → I.T l (n + 1) * I.T i e = I.T i (n + 1) * I.T l e → I.B l ≤ I.B i
  tl : ∀ j, I'.T l j = I.T l j
  ti : ∀ i, i < m → i ≠ l → ∃ g : Int, 0 < g ∧ ∀ j, I'.T i j * g = I.T i j * I.T l e - I.T i e * I.T l j
  cj : ∃ g : Int, 0 < g ∧ ∀ j, I'.C j * g = I.C j * I.T l e - I.C e * I.T l j
  bl : I'.B l = e
  bi : ∀ i, i ≠ l → I'.B i = I.B i
variable {m n k : Nat} {I I' : It} {e l : Nat}
theorem cpos {a : Int} (h : 0 < a) : (0 : Rat) < (a : Rat) := Rat.intCast_pos.mpr h
theorem cle {a b : Int} (h : a ≤ b) : (a : Rat) ≤ (b : Rat) := Rat.intCast_le_intCast.mpr h
theorem clt {a b : Int} (h : a < b) : (a : Rat) < (b : Rat) := Rat.intCast_lt_intCast.mpr h
theorem ceq {a b : Int} (h : (a : Rat) = (b : Rat)) : a = b := Rat.intCast_inj.mp h
theorem dpos {a b : Rat} (ha : 0 < a) (hb : 0 < b) : 0 < a / b := by
  rw [Rat.div_def]; exact Rat.mul_pos ha (Rat.inv_pos.mpr hb)
theorem dpos_iff {a : Int} {b : Rat} (hb : 0 < b) (h : 0 < (a : Rat) / b) : 0 < a := by
  refine Classical.byContradiction fun n => ?_
  have x : (a : Rat) ≤ 0 := cle (b := 0) (by omega)
  have y := div_pos' (a := - (a : Rat)) (b := b) (by grind) hb
  have : - (a : Rat) / b = - ((a : Rat) / b) := by grind
  grind
theorem dnn_iff {a : Int} {b : Rat} (hb : 0 < b) (h : 0 ≤ (a : Rat) / b) : 0 ≤ a := by
  refine Classical.byContradiction fun n => ?_
  have x : (a : Rat) < 0 := clt (b := 0) (by omega)
  have y := dpos (a := - (a : Rat)) (b := b) (by grind) hb
  have : - (a : Rat) / b = - ((a : Rat) / b) := by grind
  grind
theorem dd {x d p : Rat} (h : 0 < d) : x / d / (p / d) = x / p := by grind
theorem frac_gen (d' d g a' a f p x : Rat) (h1 : 0 < d') (h2 : 0 < d) (h3 : 0 < g) (h4 : 0 < p) (h5 : d' * g = d * p) (h6 : a' * g = a * p - f * x) : a' / d' = a / d - f / d * (x / p) := by
  have k1 : a' / d' = (a' * g) / (d' * g) := by grind
  rw [k1, h5, h6]
  grind
theorem frac_le {a b c d x y : Rat} (hx : 0 < x) (hy : 0 < y) (h : a * b ≤ c * d) : a / x * (b / y) ≤ c / y * (d / x) := by
  have q := div_pos' (a := c * d - a * b) (b := x * y) (by grind) (Rat.mul_pos hx hy)
  have : c / y * (d / x) - a / x * (b / y) = (c * d - a * b) / (x * y) := by grind
  grind
theorem frac_eq {a b c d x y : Rat} (hx : 0 < x) (hy : 0 < y) (h : a / x * (b / y) = c / y * (d / x)) : a * b = c * d := by
  have k1 : a * b = a / x * (b / y) * (x * y) := by grind
  have k2 : c * d = c / y * (d / x) * (x * y) := by grind
  rw [k1, k2, h]
theorem IInv.tb (H : IInv m n I) : Inv m n (I.tb n) := by
  refine ⟨H.bn, fun i hi => ?_, fun i h hi hh ne => ?_, fun i hi => ?_, fun i hi => ?_⟩
  · have := cpos (H.pos i hi)
    show (I.T i (I.B i) : Rat) / (I.T i (I.B i) : Rat) = 1
    grind
  · show (I.T h (I.B i) : Rat) / (I.T h (I.B h) : Rat) = 0
    rw [H.off i h hi hh ne, Rat.intCast_zero]; grind
  · show (I.C (I.B i) : Rat) / (I.C n : Rat) = 0
    rw [H.cz i hi, Rat.intCast_zero]; grind
  · exact div_pos' (cle (H.rp i hi)) (cpos (H.pos i hi))
theorem IStep.newpos (H : IInv m n I) (T : IStep m n k I I' e l) : ∀ i, i < m → 0 < I'.T i (I'.B i) := fun i hi => by
  by_cases x : i = l
  · rw [x, T.bl, T.tl]; exact T.pos
  · obtain ⟨g, g0, hg⟩ := T.ti i hi x
    have a := hg (I.B i)
    rw [H.off i l hi T.lm (Ne.symm x)] at a
    have b := Int.mul_pos (H.pos i hi) T.pos
    rw [T.bi i x]
    refine Classical.byContradiction fun np => ?_
    have := Int.mul_nonneg (a := - I'.T i (I.B i)) (b := g) (by omega) (by omega)
    have e1 : (- I'.T i (I.B i)) * g = - (I'.T i (I.B i) * g) := by grind
    omega
theorem IStep.step (H : IInv m n I) (T : IStep m n k I I' e l) : Step m n k (I.tb n) (I'.tb n) e l := by
  have s0 := cpos H.sp
  have p := cpos T.pos
  have dl := cpos (H.pos l T.lm)
  have cb : ∀ a b c d : Int, a * b = c * d → (a : Rat) * b = (c : Rat) * d := fun a b c d h => by rw [← Rat.intCast_mul, ← Rat.intCast_mul, h]
  have cl : ∀ a b c d : Int, a * b ≤ c * d → (a : Rat) * b ≤ (c : Rat) * d := fun a b c d h => by rw [← Rat.intCast_mul, ← Rat.intCast_mul]; exact cle h
  have c3 : ∀ a g b c d f : Int, a * g = b * c - d * f → (a : Rat) * g = (b : Rat) * c - (d : Rat) * f := fun a g b c d f h => by rw [← Rat.intCast_mul, ← Rat.intCast_mul, ← Rat.intCast_mul, ← Rat.intCast_sub, h]
  have sub1 : ∀ i, i < m → 0 < (I.tb n).t i e → 0 < I.T i e := fun i hi h => dpos_iff (cpos (H.pos i hi)) h
  obtain ⟨gc, gc0, hgc⟩ := T.cj
  have gcr := cpos gc0
  have cn : (I'.C n : Rat) * gc = (I.C n : Rat) * (I.T l e : Rat) := by
    have := c3 _ _ _ _ _ _ (hgc n)
    rw [H.sc l T.lm, Rat.intCast_zero] at this
    grind
  have cn0 : (0 : Rat) < (I'.C n : Rat) := by
    refine Classical.byContradiction fun np => ?_
    have a := Rat.mul_nonneg (a := - (I'.C n : Rat)) (b := gc) (by grind) (by grind)
    have b := Rat.mul_pos s0 p
    grind
  have rt : ∀ i, i < m → (i ≠ l) → ∃ g : Rat, 0 < g ∧ (I'.T i (I'.B i) : Rat) * g = (I.T i (I.B i) : Rat) * (I.T l e : Rat) ∧ ∀ j, (I'.T i j : Rat) * g = (I.T i j : Rat) * (I.T l e : Rat) - (I.T i e : Rat) * (I.T l j : Rat) := fun i hi x => by
    obtain ⟨g, g0, hg⟩ := T.ti i hi x
    refine ⟨(g : Rat), cpos g0, ?_, fun j => c3 _ _ _ _ _ _ (hg j)⟩
    rw [T.bi i x]
    have := c3 _ _ _ _ _ _ (hg (I.B i))
    rw [H.off i l hi T.lm (Ne.symm x), Rat.intCast_zero] at this
    grind
  refine ⟨T.ek, T.kn, ?_, fun j hj => div_pos' (cle (T.first j hj)) s0, T.lm, dpos p dl, fun i hi h => ?_, fun i hi h w => ?_, fun j => ?_, ?_, fun i hi x j => ?_, fun i hi x => ?_, fun j => ?_, ?_, T.bl, T.bi⟩
  · have := dpos (a := - (I.C e : Rat)) (b := (I.C n : Rat)) (by have := clt (b := 0) T.ce; grind) s0
    show (I.C e : Rat) / (I.C n : Rat) < 0
    grind
  · have a := cl _ _ _ _ (T.ratio i hi (sub1 i hi h))
    have di := cpos (H.pos i hi)
    show (I.T l (n + 1) : Rat) / (I.T l (I.B l) : Rat) * ((I.T i e : Rat) / (I.T i (I.B i) : Rat)) ≤ (I.T i (n + 1) : Rat) / (I.T i (I.B i) : Rat) * ((I.T l e : Rat) / (I.T l (I.B l) : Rat))
    exact frac_le dl di a
  · refine T.tie i hi (sub1 i hi h) (ceq ?_)
    have di := cpos (H.pos i hi)
    have w' : (I.T l (n + 1) : Rat) / (I.T l (I.B l) : Rat) * ((I.T i e : Rat) / (I.T i (I.B i) : Rat)) = (I.T i (n + 1) : Rat) / (I.T i (I.B i) : Rat) * ((I.T l e : Rat) / (I.T l (I.B l) : Rat)) := w
    rw [Rat.intCast_mul, Rat.intCast_mul]
    exact frac_eq dl di w'
  · show (I'.T l j : Rat) / (I'.T l (I'.B l) : Rat) = (I.T l j : Rat) / (I.T l (I.B l) : Rat) / ((I.T l e : Rat) / (I.T l (I.B l) : Rat))
    rw [T.bl, T.tl, T.tl, dd dl]
  · show (I'.T l (n + 1) : Rat) / (I'.T l (I'.B l) : Rat) = (I.T l (n + 1) : Rat) / (I.T l (I.B l) : Rat) / ((I.T l e : Rat) / (I.T l (I.B l) : Rat))
    rw [T.bl, T.tl, T.tl, dd dl]
  · obtain ⟨g, g0, h1, h2⟩ := rt i hi x
    have := frac_gen _ _ _ _ _ _ _ _ (cpos (T.newpos H i hi)) (cpos (H.pos i hi)) g0 p h1 (h2 j)
    show (I'.T i j : Rat) / (I'.T i (I'.B i) : Rat) = (I.T i j : Rat) / (I.T i (I.B i) : Rat) - (I.T i e : Rat) / (I.T i (I.B i) : Rat) * ((I.T l j : Rat) / (I.T l (I.B l) : Rat) / ((I.T l e : Rat) / (I.T l (I.B l) : Rat)))
    rw [this, dd dl]
  · obtain ⟨g, g0, h1, h2⟩ := rt i hi x
    have := frac_gen _ _ _ _ _ _ _ _ (cpos (T.newpos H i hi)) (cpos (H.pos i hi)) g0 p h1 (h2 (n + 1))
    show (I'.T i (n + 1) : Rat) / (I'.T i (I'.B i) : Rat) = (I.T i (n + 1) : Rat) / (I.T i (I.B i) : Rat) - (I.T i e : Rat) / (I.T i (I.B i) : Rat) * ((I.T l (n + 1) : Rat) / (I.T l (I.B l) : Rat) / ((I.T l e : Rat) / (I.T l (I.B l) : Rat)))
    rw [this, dd dl]
  · have := frac_gen _ _ _ _ _ _ _ _ cn0 s0 gcr p cn (c3 _ _ _ _ _ _ (hgc j))
    show (I'.C j : Rat) / (I'.C n : Rat) = (I.C j : Rat) / (I.C n : Rat) - (I.C e : Rat) / (I.C n : Rat) * ((I.T l j : Rat) / (I.T l (I.B l) : Rat) / ((I.T l e : Rat) / (I.T l (I.B l) : Rat)))
    rw [this, dd dl]
  · have := frac_gen _ _ _ _ _ _ _ _ cn0 s0 gcr p cn (c3 _ _ _ _ _ _ (hgc (n + 1)))
    show (I'.C (n + 1) : Rat) / (I'.C n : Rat) = (I.C (n + 1) : Rat) / (I.C n : Rat) - (I.C e : Rat) / (I.C n : Rat) * ((I.T l (n + 1) : Rat) / (I.T l (I.B l) : Rat) / ((I.T l e : Rat) / (I.T l (I.B l) : Rat)))
    rw [this, dd dl]
theorem IStep.inv (H : IInv m n I) (T : IStep m n k I I' e l) : IInv m n I' := by
  have J := (T.step H).inv H.tb
  have np := T.newpos H
  have cn : 0 < I'.C n := by
    obtain ⟨g, g0, hg⟩ := T.cj
    have a := hg n
    rw [H.sc l T.lm] at a
    have b := Int.mul_pos H.sp T.pos
    refine Classical.byContradiction fun x => ?_
    have := Int.mul_nonneg (a := - I'.C n) (b := g) (by omega) (by omega)
    have e1 : (- I'.C n) * g = - (I'.C n * g) := by grind
    omega
  have z0 : ∀ (a : Int) (b : Rat), 0 < b → (a : Rat) / b = 0 → a = 0 := fun a b hb h => by
    have : (a : Rat) = (a : Rat) / b * b := by grind
    rw [h] at this
    exact ceq (by rw [this, Rat.intCast_zero]; grind)
  refine ⟨J.bn, np, fun i h hi hh ne => z0 _ _ (cpos (np h hh)) (J.off i h hi hh ne), fun i hi => z0 _ _ (cpos cn) (J.cz i hi), fun i hi => dnn_iff (cpos (np i hi)) (J.rp i hi), fun i hi => ?_, cn⟩
  by_cases x : i = l
  · rw [x, T.tl]; exact H.sc l T.lm
  · obtain ⟨g, g0, hg⟩ := T.ti i hi x
    have a := hg n
    rw [H.sc l T.lm, H.sc i hi] at a
    have : I'.T i n * g = 0 := by rw [a]; simp
    rcases Int.mul_eq_zero.mp this with w | w <;> omega
end Sx
end
section
set_option Elab.async false
set_option linter.all false
namespace Sx
variable {m n k : Nat} {I I' : It} {e l : Nat} {many : Nat} {R : Nat → Nat → Int} {C0 : Nat → Int}
def Prim (f : Nat → Int) : Prop := ∀ d : Nat, (∀ j, d ∣ (f j).natAbs) → d = 1
structure Lin (m n many : Nat) (R : Nat → Nat → Int) (C0 : Nat → Int) (I : It) : Prop where
  lin : ∀ i, i < m → ∀ j, I.T i j = si m (fun k => I.T i (many + k) * R k j)
  clin : ∀ j, I.C j = I.C n * C0 j + si m (fun k => I.C (many + k) * R k j)
  span : ∀ k, k < m → ∃ β : Nat → Rat, ∀ j, (R k j : Rat) = sm m (fun h => β h * (I.T h j : Rat))
theorem cancel {g a b : Int} (h : 0 < g) (e : a * g = b * g) : a = b := Int.eq_of_mul_eq_mul_right (by omega) e
theorem IStep.lin (H : IInv m n I) (T : IStep m n k I I' e l) (A : Lin m n many R C0 I) : Lin m n many R C0 I' := by
  refine ⟨fun i hi j => ?_, fun j => ?_, fun q hq => ?_⟩
  · by_cases x : i = l
    · rw [x, T.tl, A.lin l T.lm j]
      exact si_congr fun k _ => by rw [T.tl]
    · obtain ⟨g, g0, hg⟩ := T.ti i hi x
      refine cancel g0 ?_
      rw [hg j, Int.mul_comm (si _ _) g, ← si_mul, si_congr (g := fun k => I.T l e * (I.T i (many + k) * R k j) + (- I.T i e) * (I.T l (many + k) * R k j)) fun k _ => by
        have := hg (many + k)
        grind, si_add, si_mul, si_mul, ← A.lin i hi j, ← A.lin l T.lm j]
      grind
  · obtain ⟨g, g0, hg⟩ := T.cj
    refine cancel g0 ?_
    have cn : I'.C n * g = I.C n * I.T l e := by
      have := hg n
      rw [H.sc l T.lm] at this
      grind
    have : (I'.C n * C0 j + si m (fun k => I'.C (many + k) * R k j)) * g = (I'.C n * g) * C0 j + g * si m (fun k => I'.C (many + k) * R k j) := by grind
    rw [this, hg j, cn, ← si_mul, si_congr (g := fun k => I.T l e * (I.C (many + k) * R k j) + (- I.C e) * (I.T l (many + k) * R k j)) fun k _ => by
        have := hg (many + k)
        grind, si_add, si_mul, si_mul, ← A.lin l T.lm j]
    have := A.clin j
    grind
  · obtain ⟨β, hβ⟩ := A.span q hq
    have p := cpos T.pos
    -- each old row by the new ones
    have old : ∀ h, ∃ ab : Rat × Rat, h < m → ∀ j, (I.T h j : Rat) = ab.1 * (I'.T h j : Rat) + ab.2 * (I'.T l j : Rat) := fun h => by
      by_cases hm : h < m
      · by_cases x : h = l
        · exact ⟨(1, 0), fun _ j => by rw [x, T.tl]; grind⟩
        · obtain ⟨g, g0, hg⟩ := T.ti h hm x
          refine ⟨((g : Rat) / (I.T l e : Rat), (I.T h e : Rat) / (I.T l e : Rat)), fun _ j => ?_⟩
          have a : (I'.T h j : Rat) * g = (I.T h j : Rat) * (I.T l e : Rat) - (I.T h e : Rat) * (I.T l j : Rat) := by
            rw [← Rat.intCast_mul, ← Rat.intCast_mul, ← Rat.intCast_mul, ← Rat.intCast_sub, hg j]
          rw [T.tl]
          show (I.T h j : Rat) = (g : Rat) / (I.T l e : Rat) * (I'.T h j : Rat) + (I.T h e : Rat) / (I.T l e : Rat) * (I.T l j : Rat)
          clear hg hβ
          grind
      · exact ⟨(0, 0), fun w => absurd w hm⟩
    obtain ⟨ab, hab⟩ := Classical.axiomOfChoice old
    refine ⟨fun h => β h * (ab h).1 + (if h = l then sm m (fun h => β h * (ab h).2) else 0), fun j => ?_⟩
    rw [hβ j, sm_congr (g := fun h => β h * (ab h).1 * (I'.T h j : Rat) + (I'.T l j : Rat) * (β h * (ab h).2)) fun h hh => by rw [hab h hh j]; grind, sm_add, sm_mul,
      sm_congr (f := fun h => (β h * (ab h).1 + if h = l then sm m (fun h => β h * (ab h).2) else 0) * (I'.T h j : Rat)) (g := fun h => β h * (ab h).1 * (I'.T h j : Rat) + (if h = l then sm m (fun h => β h * (ab h).2) else 0) * (I'.T h j : Rat)) fun h hh => by grind, sm_add,
      sm_one (f := fun h => (if h = l then sm m (fun h => β h * (ab h).2) else 0) * (I'.T h j : Rat)) T.lm fun h _ ne => by rw [if_neg ne]; grind, if_pos rfl]
    grind
structure Orig (m n many : Nat) (R : Nat → Nat → Int) (C0 : Nat → Int) : Prop where
  m6 : m ≤ 6
  nm : n = many + m
  unit : ∀ k h, k < m → h < m → R k (many + h) = if h = k then 1 else 0
  small : ∀ k j, k < m → (R k j).natAbs ≤ 1
  csmall : ∀ j, (C0 j).natAbs ≤ 6
  cart : ∀ h, h < m → C0 (many + h) = 0
end Sx
end
section
set_option Elab.async false
set_option linter.all false
namespace Sx
abbrev at0 (xs : List Int) (j : Nat) : Int := xs.getD j 0
def gl : List Int → Nat
  | [] => 0
  | x :: r => Nat.gcd x.natAbs (gl r)
def short (xs : List Int) : List Int := if 1 < gl xs then xs.map (fun x => x / (gl xs : Int)) else xs
def comb (row other : List Int) (place : Nat) : List Int := List.zipWith (fun a b => a * at0 other place - at0 row place * b) row other
def clr (row other : List Int) (place : Nat) : List Int := if at0 row place = 0 then row else short (comb row other place)
structure LT where
  rows : List (List Int)
  basis : List Nat
  costs : List Int
def LT.row (X : LT) (i : Nat) : List Int := X.rows.getD i []
def LT.it (X : LT) : It := ⟨fun i j => at0 (X.row i) j, at0 X.costs, fun i => X.basis.getD i 0⟩
def leave (X : LT) (w place : Nat) : Nat → Option Nat
  | 0 => none
  | q + 1 => match leave X w place q with
    | none => if 0 < at0 (X.row q) place then some q else none
    | some b => if 0 < at0 (X.row q) place ∧ (at0 (X.row q) w * at0 (X.row b) place < at0 (X.row b) w * at0 (X.row q) place ∨ at0 (X.row q) w * at0 (X.row b) place = at0 (X.row b) w * at0 (X.row q) place ∧ X.basis.getD q 0 < X.basis.getD b 0) then some q else some b
def ratio (X : LT) (w place i : Nat) : Rat := (at0 (X.row i) w : Rat) / (at0 (X.row i) place : Rat)
end Sx
end
section
set_option Elab.async false
set_option linter.all false
namespace Sx
variable {m n many : Nat} {R : Nat → Nat → Int} {C0 : Nat → Int}
structure OK (m n many : Nat) (R : Nat → Nat → Int) (C0 : Nat → Int) (X : LT) : Prop where
  rl : X.rows.length = m
  rw : ∀ i, i < m → (X.row i).length = n + 2
  bl : X.basis.length = m
  cl : X.costs.length = n + 2
  inv : IInv m n X.it
  lin : Lin m n many R C0 X.it
  pr : ∀ i, i < m → Prim (X.it.T i)
  pc : Prim X.it.C
  idn : ∀ x, Sol m n (X.it.tb n) x → sm n (fun j => (X.it.tb n).c j * x j) - (X.it.tb n).z = sm m (fun h => x (many + h))
  orig : ∀ x, Sol m n (X.it.tb n) x → ∀ h, h < m → sm n (fun j => (R h j : Rat) * x j) = (R h (n + 1) : Rat)
def neg (many : Nat) (X : LT) : List Nat := (List.range many).filter fun j => decide (at0 X.costs j < 0)
def turn (m : Nat) (X : LT) (l e : Nat) : LT where
  rows := (List.range m).map fun i => if i = l then X.row l else clr (X.row i) (X.row l) e
  basis := X.basis.set l e
  costs := clr X.costs (X.row l) e
def nxt (m n many : Nat) (X : LT) : LT := match neg many X with
  | [] => X
  | e :: _ => match leave X (n + 1) e m with
    | some l => turn m X l e
    | none => X
def its (m n many : Nat) (X : LT) : Nat → LT
  | 0 => X
  | p + 1 => nxt m n many (its m n many X p)
theorem least {P : Nat → Prop} : ∀ p, P p → ∃ q, q ≤ p ∧ P q ∧ ∀ r, r < q → ¬ P r := by
  intro p
  induction p using Nat.strongRecOn with
  | _ p ih =>
    intro h
    by_cases w : ∃ r, r < p ∧ P r
    · obtain ⟨r, a, b⟩ := w
      obtain ⟨q, x, y, z⟩ := ih r a b
      exact ⟨q, by omega, y, z⟩
    · exact ⟨p, Nat.le_refl _, h, fun r a b => w ⟨r, a, b⟩⟩
end Sx
end
section
set_option Elab.async false
set_option linter.all false
namespace Sx
structure Start (m n many : Nat) (X : LT) : Prop where
  m6 : m ≤ 6
  nm : n = many + m
  rl : X.rows.length = m
  rw : ∀ i, i < m → (X.row i).length = n + 2
  bl : X.basis.length = m
  bs : ∀ i, i < m → X.basis.getD i 0 = many + i
  cl : X.costs.length = n + 2
  unit : ∀ k h, k < m → h < m → at0 (X.row k) (many + h) = if h = k then 1 else 0
  small : ∀ k j, k < m → (at0 (X.row k) j).natAbs ≤ 1
  sc : ∀ k, k < m → at0 (X.row k) n = 0
  rp : ∀ k, k < m → 0 ≤ at0 (X.row k) (n + 1)
  cn : at0 X.costs n = 1
  ca : ∀ h, h < m → at0 X.costs (many + h) = 0
  cs : ∀ j, j < many ∨ j = n + 1 → at0 X.costs j = - si m (fun h => at0 (X.row h) j)
variable {m n many : Nat} {X : LT}
theorem sm_split (f : Nat → Rat) (a : Nat) : ∀ b, sm (a + b) f = sm a f + sm b (fun j => f (a + j))
  | 0 => by simp only [sm, Nat.add_zero]; grind
  | b + 1 => by
    show sm (a + b) f + f (a + b) = _
    rw [sm_split f a b, sm]; grind
theorem si_one {f : Nat → Int} {k : Nat} : ∀ {n : Nat}, k < n → (∀ j, j < n → j ≠ k → f j = 0) → si n f = f k
  | n + 1, hk, h => by
    rw [si]
    by_cases e : k = n
    · subst e
      rw [si_zero fun j hj => h j (by omega) (by omega)]; omega
    · rw [si_one (k := k) (by omega) fun j hj => h j (by omega), h n (by omega) (by omega)]; omega
theorem Start.orig (A : Start m n many X) : Orig m n many (fun k j => at0 (X.row k) j) (at0 X.costs) := by
  refine ⟨A.m6, A.nm, A.unit, A.small, fun j => ?_, A.ca⟩
  by_cases h1 : j < many ∨ j = n + 1
  · rw [A.cs j h1, Int.natAbs_neg]
    have := si_abs (f := fun h => at0 (X.row h) j) (K := 1) (n := m) fun h hh => A.small h j hh
    have := A.m6
    omega
  · by_cases h2 : j = n
    · rw [h2, A.cn]; decide
    · by_cases h3 : j < n
      · have e : j = many + (j - many) := by omega
        rw [e, A.ca _ (by have := A.nm; omega)]; decide
      · have : at0 X.costs j = 0 := by
          unfold at0
          rw [List.getD_eq_getElem?_getD, List.getElem?_eq_none (by rw [A.cl]; omega)]; rfl
        rw [this]; decide
theorem Start.ok (A : Start m n many X) : OK m n many (fun k j => at0 (X.row k) j) (at0 X.costs) X := by
  have nm := A.nm
  have B : ∀ i, i < m → X.it.B i = many + i := A.bs
  have T1 : ∀ i, i < m → X.it.T i (X.it.B i) = 1 := fun i hi => by
    rw [B i hi]
    show at0 (X.row i) (many + i) = 1
    rw [A.unit i i hi hi, if_pos rfl]
  have I : IInv m n X.it := by
    refine ⟨fun i hi => by rw [B i hi]; omega, fun i hi => by rw [T1 i hi]; decide, fun i h hi hh ne => ?_, fun i hi => ?_, A.rp, A.sc, ?_⟩
    · rw [B i hi]
      show at0 (X.row h) (many + i) = 0
      rw [A.unit h i hh hi, if_neg (Ne.symm ne)]
    · rw [B i hi]; exact A.ca i hi
    · show 0 < at0 X.costs n
      rw [A.cn]; decide
  have tt : ∀ i, i < m → ∀ j, (X.it.tb n).t i j = (at0 (X.row i) j : Rat) := fun i hi j => by
    show (X.it.T i j : Rat) / (X.it.T i (X.it.B i) : Rat) = _
    rw [T1 i hi]
    show (at0 (X.row i) j : Rat) / ((1 : Int) : Rat) = _
    rw [Rat.intCast_one]; grind
  have rr : ∀ i, i < m → (X.it.tb n).r i = (at0 (X.row i) (n + 1) : Rat) := fun i hi => by
    show (X.it.T i (n + 1) : Rat) / (X.it.T i (X.it.B i) : Rat) = _
    rw [T1 i hi]
    show (at0 (X.row i) (n + 1) : Rat) / ((1 : Int) : Rat) = _
    rw [Rat.intCast_one]; grind
  have cc : ∀ j, (X.it.tb n).c j = (at0 X.costs j : Rat) := fun j => by
    show (at0 X.costs j : Rat) / (at0 X.costs n : Rat) = _
    rw [A.cn, Rat.intCast_one]; grind
  have zz : (X.it.tb n).z = (at0 X.costs (n + 1) : Rat) := by
    show (at0 X.costs (n + 1) : Rat) / (at0 X.costs n : Rat) = _
    rw [A.cn, Rat.intCast_one]; grind
  have or_ : ∀ x, Sol m n (X.it.tb n) x → ∀ h, h < m → sm n (fun j => (at0 (X.row h) j : Rat) * x j) = (at0 (X.row h) (n + 1) : Rat) := fun x hx h hh => by
    have := hx h hh
    rw [rr h hh, sm_congr (g := fun j => (at0 (X.row h) j : Rat) * x j) fun j _ => by rw [tt h hh j]] at this
    exact this
  refine ⟨A.rl, A.rw, A.bl, A.cl, I, ⟨fun i hi j => ?_, fun j => ?_, fun k hk => ⟨fun h => if h = k then 1 else 0, fun j => ?_⟩⟩, fun i hi d hd => ?_, fun d hd => ?_, fun x hx => ?_, or_⟩
  · rw [si_one hi fun h hh ne => by
      show at0 (X.row i) (many + h) * at0 (X.row h) j = 0
      rw [A.unit i h hi hh, if_neg ne]; omega]
    show at0 (X.row i) j = at0 (X.row i) (many + i) * at0 (X.row i) j
    rw [A.unit i i hi hi, if_pos rfl]; omega
  · show at0 X.costs j = at0 X.costs n * at0 X.costs j + si m (fun k => at0 X.costs (many + k) * at0 (X.row k) j)
    rw [A.cn, si_zero fun h hh => by rw [A.ca h hh]; omega]; omega
  · rw [sm_one hk fun h hh ne => by
      show (if h = k then (1 : Rat) else 0) * (at0 (X.row h) j : Rat) = 0
      rw [if_neg ne]; grind]
    show (at0 (X.row k) j : Rat) = (if k = k then (1 : Rat) else 0) * (at0 (X.row k) j : Rat)
    rw [if_pos rfl]
    grind
  · have := hd (X.it.B i)
    rw [T1 i hi] at this
    exact Nat.dvd_one.mp this
  · have := hd n
    have e : X.it.C n = 1 := A.cn
    rw [e] at this
    exact Nat.dvd_one.mp this
  · have o := or_ x hx
    rw [zz, A.cs (n + 1) (.inr rfl), sm_congr (g := fun j => (at0 X.costs j : Rat) * x j) fun j _ => by rw [cc j]]
    subst nm
    rw [sm_split, sm_zero (f := fun j => (at0 X.costs (many + j) : Rat) * x (many + j)) fun h hh => by rw [A.ca h hh, Rat.intCast_zero]; grind]
    have o' : ∀ h, h < m → x (many + h) = (at0 (X.row h) (many + m + 1) : Rat) - sm many (fun j => (at0 (X.row h) j : Rat) * x j) := fun h hh => by
      have a := o h hh
      rw [sm_split, sm_one (f := fun j => (at0 (X.row h) (many + j) : Rat) * x (many + j)) hh fun j hj ne => by rw [A.unit h j hh hj, if_neg ne, Rat.intCast_zero]; grind, A.unit h h hh hh, if_pos rfl, Rat.intCast_one] at a
      grind
    rw [sm_congr (f := fun h => x (many + h)) o', sm_sub, sm_comm, Rat.intCast_neg, si_cast]
    rw [sm_congr (f := fun j => (at0 X.costs j : Rat) * x j) (g := fun j => (-1) * sm m (fun i => (at0 (X.row i) j : Rat) * x j)) fun j hj => by
      rw [A.cs j (.inl hj), Rat.intCast_neg, si_cast, sm_congr (f := fun i => (at0 (X.row i) j : Rat) * x j) (g := fun i => x j * (at0 (X.row i) j : Rat)) fun i _ => by grind, sm_mul]
      grind, sm_mul]
    grind
end Sx
end
section
set_option Elab.async false
set_option linter.all false
set_option maxRecDepth 10000
set_option exponentiation.threshold 20000
namespace Lq
open PySem PySem.Spec PyProof.Rows L2
theorem v0 {x : Option PV} {e : Ev} : (x :: e)[0]? = some x := rfl
theorem vS {x : Option PV} {e : Ev} {i : Nat} : (x :: e)[i + 1]? = e[i]? := rfl
theorem oNe_int (a b : Int) (st : Store) : oNe (.int a) (.int b) st = some (.bl (!(a == b))) := by simp [oNe, rsv, dChk, dOk, noScr, peq]
theorem oEq_int (a b : Int) (st : Store) : oEq (.int a) (.int b) st = some (.bl (a == b)) := by simp [oEq, rsv, dChk, dOk, noScr, peq]
theorem oAdd_int (a b : Int) (s : Store) : oAdd (.int a) (.int b) s = some (.int (a + b)) := rfl
theorem oSub_int (a b : Int) (s : Store) : oSub (.int a) (.int b) s = some (.int (a - b)) := rfl
theorem oGt_int (a b : Int) (s : Store) : oGtI (.int a) (.int b) s = some (.bl (decide (b < a))) := rfl
theorem oGe_int (a b : Int) (s : Store) : oGeI (.int a) (.int b) s = some (.bl (decide (b ≤ a))) := rfl
abbrev nI (ns : List Int) : List PV := ns.map PV.int
end Lq
end
section
set_option Elab.async false
set_option linter.all false
set_option maxRecDepth 10000
set_option exponentiation.threshold 20000
namespace Lq
open PySem PySem.Spec PyProof.Rows L2
open Sx (at0 clr comb short)
theorem at_ints {xs : List Int} {j : Nat} (h : j < xs.length) : atI (nI xs) (j : Int) = some (.int (at0 xs j)) := by
  refine atI_nat ?_
  rw [List.getElem?_map, List.getElem?_eq_getElem h]
  simp [at0, h]
theorem ixL {xs : List Int} {j : Nat} (st : Store) (h : j < xs.length) : oIx (.lst (nI xs)) (.int (j : Int)) st = some (.int (at0 xs j)) := by
  simp only [oIx, asS, asL]; exact at_ints h
end Lq
end
section
set_option Elab.async false
set_option linter.all false
set_option maxRecDepth 10000
set_option exponentiation.threshold 20000
namespace Lq
open PySem PySem.Spec PyProof.Rows L2
open Sx (at0 clr comb short LT)
theorem rng_at {n i : Nat} {x : PV} (h : (rng 0 n)[i]? = some x) : i < n ∧ x = .int (i : Int) := by
  unfold rng at h
  rw [List.getElem?_map] at h
  by_cases w : i < n
  · rw [List.getElem?_range w] at h
    simp at h
    exact ⟨w, h.symm⟩
  · rw [List.getElem?_eq_none (by simpa using w)] at h
    simp at h
theorem rng_len (n : Nat) : (rng 0 n).length = n := by simp [rng]
abbrev rowsV (rs : List (List Int)) : List PV := rs.map fun r => .lst (nI r)
abbrev natsV (bs : List Nat) : List PV := bs.map fun (k : Nat) => PV.int (k : Int)
structure EqAt (st : Store) (o r b many : Nat) (sg : List PV) (X : LT) : Prop where
  ho : st[o]? = some (.ins "Equations" [("many", .int (many : Int)), ("signs", .lst sg), ("rows", .own r), ("basis", .own b)])
  hr : st[r]? = some (.lst (rowsV X.rows))
  hb : st[b]? = some (.lst (natsV X.basis))
theorem EqAt.ne {st o r b many sg X} (H : EqAt st o r b many sg X) : o ≠ r ∧ o ≠ b := by
  refine ⟨fun h => ?_, fun h => ?_⟩
  · have := H.ho; rw [h, H.hr] at this; simp at this
  · have := H.ho; rw [h, H.hb] at this; simp at this
theorem ixOwn {st : Store} {r : Nat} {xs : List PV} {j : Nat} {x : PV} (h : st[r]? = some (.lst xs)) (hx : xs[j]? = some x) : oIx (.own r) (.int (j : Int)) st = some x := by
  simp only [oIx, asS, asL, h]; exact atI_nat hx
theorem st_set {st : Store} {r k : Nat} {c d : Cell} (h : st[r]? = some c) : (st.set r d)[k]? = if k = r then some d else st[k]? := by
  have hr := (List.getElem?_eq_some_iff.mp h).1
  rw [List.getElem?_set]
  by_cases x : r = k
  · subst x; simp [hr]
  · simp [x, Ne.symm x]
end Lq
end
section
set_option Elab.async false
set_option linter.all false
set_option maxRecDepth 10000
set_option exponentiation.threshold 20000
namespace Lq
open PySem PySem.Spec PyProof.Rows L2
open Sx (at0 clr comb short LT)
theorem oLt_int (a b : Int) (s : Store) : oLt (.int a) (.int b) s = some (.bl (decide (a < b))) := rfl
end Lq
end
section
set_option Elab.async false
set_option linter.all false
set_option maxRecDepth 10000
set_option exponentiation.threshold 20000
namespace Lq
open PySem PySem.Spec PyProof.Rows L2
open Sx (at0 clr comb short LT)
def Keeps (ex : List Nat) (st s : Store) : Prop := st.length ≤ s.length ∧ ∀ i, i < st.length → i ∉ ex → s[i]? = st[i]?
theorem Keeps.refl (ex : List Nat) (st : Store) : Keeps ex st st := ⟨Nat.le_refl _, fun _ _ _ => rfl⟩
theorem Keeps.trans {ex : List Nat} {a b c : Store} (h : Keeps ex a b) (g : Keeps ex b c) : Keeps ex a c :=
  ⟨Nat.le_trans h.1 g.1, fun i hi hn => (g.2 i (Nat.lt_of_lt_of_le hi h.1) hn).trans (h.2 i hi hn)⟩
theorem Keeps.app (ex : List Nat) (st : Store) (cs : List Cell) : Keeps ex st (st ++ cs) := ⟨by simp, fun i hi _ => List.getElem?_append_left hi⟩
theorem Keeps.set {ex : List Nat} {st s : Store} (h : Keeps ex st s) {k : Nat} (hk : st.length ≤ k ∨ k ∈ ex) (c : Cell) : Keeps ex st (s.set k c) := by
  refine ⟨by rw [List.length_set]; exact h.1, fun i hi hn => ?_⟩
  rw [List.getElem?_set_ne (by
    intro e
    subst e
    rcases hk with a | a
    · omega
    · exact hn a), h.2 i hi hn]
theorem Keeps.eq {ex : List Nat} {st s : Store} {o r b many : Nat} {sg : List PV} {X : LT} (h : Keeps ex st s) (H : EqAt st o r b many sg X) (ho : o ∉ ex) (hr : r ∉ ex) (hb : b ∉ ex) : EqAt s o r b many sg X :=
  ⟨(h.2 o (List.getElem?_eq_some_iff.mp H.ho).1 ho).trans H.ho, (h.2 r (List.getElem?_eq_some_iff.mp H.hr).1 hr).trans H.hr, (h.2 b (List.getElem?_eq_some_iff.mp H.hb).1 hb).trans H.hb⟩
end Lq
end
section
set_option Elab.async false
set_option linter.all false
set_option maxRecDepth 10000
set_option exponentiation.threshold 20000
namespace Lq
open PySem PySem.Spec PyProof.Rows L2
open Sx (at0 clr comb short LT)
end Lq
end
section
set_option Elab.async false
set_option linter.all false
set_option maxRecDepth 10000
set_option exponentiation.threshold 20000
namespace Lq
open PySem PySem.Spec PyProof.Rows L2
open Sx (at0 clr comb short LT)
def CostV (lo : Nat) (s : Store) (cv : PV) (cs : List Int) : Prop := (∃ k, cv = .own k ∧ lo ≤ k ∧ s[k]? = some (.lst (nI cs))) ∨ cv = .lst (nI cs)
theorem CostV.ix {lo : Nat} {s : Store} {cv : PV} {cs : List Int} (h : CostV lo s cv cs) {j : Nat} (hj : j < cs.length) : oIx cv (.int (j : Int)) s = some (.int (at0 cs j)) := by
  rcases h with ⟨k, rfl, _, hk⟩ | rfl
  · refine ixOwn hk ?_
    rw [List.getElem?_map, List.getElem?_eq_getElem hj]
    simp [at0, hj]
  · exact ixL s hj
end Lq
end
section
set_option Elab.async false
set_option linter.all false
set_option maxRecDepth 10000
set_option exponentiation.threshold 20000
namespace Lq
open PySem PySem.Spec PyProof.Rows L2
open Sx (at0 clr comb short LT)
end Lq
end
section
set_option Elab.async false
set_option linter.all false
set_option maxRecDepth 10000
namespace Lq
open PySem PySem.Spec PyProof.Rows L2
def Ok {α : Type} (r : R α) (P : α → Store → Prop) : Prop := ∃ a s, r = .ok a s ∧ P a s
def Ex {α : Type} (r : R α) (c : Str) (P : Store → Prop) : Prop := ∃ s, r = .ex c s ∧ P s
section
variable {α β : Type} {r : R α} {k : α → Store → R β} {P Q : α → Store → Prop} {T : β → Store → Prop} {a : α} {s : Store}
theorem ok_ok : Ok (R.ok a s) P ↔ P a s := ⟨fun ⟨_, _, e, h⟩ => (by cases e; exact h), fun h => ⟨a, s, rfl, h⟩⟩
theorem ok_no : Ok (R.no : R α) P ↔ False := ⟨fun ⟨_, _, e, _⟩ => (by cases e), False.elim⟩
theorem ok_bind : Ok (r.bind k) T ↔ Ok r (fun a s => Ok (k a s) T) := by
  cases r with
  | ok a s => rw [b_ok, ok_ok]
  | ex c s => exact ⟨fun ⟨_, _, e, _⟩ => (by cases e), fun ⟨_, _, e, _⟩ => (by cases e)⟩
  | no => exact ⟨fun ⟨_, _, e, _⟩ => (by cases e), fun ⟨_, _, e, _⟩ => (by cases e)⟩
theorem Ok.mono (h : Ok r P) (f : ∀ a s, P a s → Q a s) : Ok r Q := let ⟨a, s, e, p⟩ := h; ⟨a, s, e, f a s p⟩
theorem Ok.of (e : r = .ok a s) (h : P a s) : Ok r P := ⟨a, s, e, h⟩
theorem Ok.eq (e : r = .ok a s) : Ok r P ↔ P a s := by rw [e]; exact ok_ok
theorem ok_noX : Ok (noX r) P ↔ Ok r P := by
  cases r with
  | ok a s => exact Iff.rfl
  | ex c s => exact ⟨fun ⟨_, _, e, _⟩ => (by cases e), fun ⟨_, _, e, _⟩ => (by cases e)⟩
  | no => exact Iff.rfl
theorem ok_ite {c : Prop} [Decidable c] {r' : R α} : Ok (if c then r else r') P ↔ (if c then Ok r P else Ok r' P) := by split <;> exact Iff.rfl
end
def Op (o : Option PV) (P : PV → Prop) : Prop := ∃ z, o = some z ∧ P z
theorem op_some {z : PV} {P : PV → Prop} : Op (some z) P ↔ P z := ⟨fun ⟨_, e, h⟩ => (by cases e; exact h), fun h => ⟨z, rfl, h⟩⟩
theorem op_none {P : PV → Prop} : Op none P ↔ False := ⟨fun ⟨_, e, _⟩ => (by cases e), False.elim⟩
theorem Op.of {o : Option PV} {z : PV} {P : PV → Prop} (e : o = some z) (h : P z) : Op o P := ⟨z, e, h⟩
def frzK (T : PV → Store → Prop) : PV → Store → Prop
  | .own k, s => (match s[k]? with
    | some (.lst xs) => T (.lst xs) (s.set k (.frz xs))
    | some (.frz xs) => T (.lst xs) s
    | _ => False)
  | .lst xs, s => T (.lst xs) s
  | .tup xs, s => T (.tup xs) s
  | _, _ => False
theorem frzK_own {T : PV → Store → Prop} {k : Nat} {s : Store} : frzK T (.own k) s ↔ (match s[k]? with
    | some (.lst xs) => T (.lst xs) (s.set k (.frz xs))
    | some (.frz xs) => T (.lst xs) s
    | _ => False) := Iff.rfl
theorem frzK_lst {T : PV → Store → Prop} {xs : List PV} {s : Store} : frzK T (.lst xs) s ↔ T (.lst xs) s := Iff.rfl
theorem frzK_tup {T : PV → Store → Prop} {xs : List PV} {s : Store} : frzK T (.tup xs) s ↔ T (.tup xs) s := Iff.rfl
def nxK (b : XS) (P : Fl → Store → Prop) : Fl → Store → Prop
  | .nx e, s => Ok (b e s) P
  | fl, s => P fl s
section
variable {env : Ev} {st s : Store} {P : Fl → Store → Prop} {T : PV → Store → Prop} {B : Bool → Store → Prop} {L : List PV → Store → Prop} {a b : XS} {f g h : XE} {c d : Ev → Store → R Bool} {al : XL}
theorem nxK_nx {e : Ev} : nxK b P (.nx e) s ↔ Ok (b e s) P := Iff.rfl
theorem nxK_rt {v : PV} : nxK b P (.rt v) s ↔ P (.rt v) s := Iff.rfl
theorem ok_seq : Ok (sSeq a b env st) P ↔ Ok (a env st) (nxK b P) := by
  rw [sSeq, ok_bind]
  constructor
  · exact fun h => h.mono fun fl s h => by cases fl <;> first | exact h | exact (ok_ok (P := P)).mp h
  · exact fun h => h.mono fun fl s h => by cases fl <;> first | exact h | exact (ok_ok (P := P)).mpr h
theorem ok_nil : Ok (sNil env st) P ↔ P (.nx env) st := ok_ok
theorem ok_set {i : Nat} : Ok (sSet i f env st) P ↔ Ok (f env st) fun v s => P (.nx (env.set i (some v))) s := by
  rw [sSet, ok_bind]; simp only [ok_ok]
theorem ok_asg {t : PV → Ev → Store → R Ev} : Ok (sAsg f t env st) P ↔ Ok (f env st) fun v s => Ok (t v env s) fun e s2 => P (.nx e) s2 := by
  rw [sAsg, ok_bind]; simp only [ok_bind, ok_ok]
theorem ok_drop : Ok (sDrop f env st) P ↔ Ok (f env st) fun _ s => P (.nx env) s := by rw [sDrop, ok_bind]; simp only [ok_ok]
theorem ok_ret : Ok (sRet f env st) P ↔ Ok (f env st) fun v s => P (.rt v) s := by rw [sRet, ok_bind]; simp only [ok_ok]
theorem ok_if : Ok (sIf c a b env st) P ↔ Ok (c env st) fun k s => if k = true then Ok (a env s) P else Ok (b env s) P := by
  rw [sIf, ok_bind]; simp only [ok_ite]
theorem ok_par {i j : Nat} : Ok (sPar i j al env st) P ↔ Ok (al env st) fun vs s => match vs with | [v, w] => P (.nx ((env.set i (some v)).set j (some w))) s | _ => False := by
  rw [sPar, ok_bind]
  constructor <;> exact fun h => h.mono fun vs s h => by
    match vs, h with
    | [v, w], h => first | exact ok_ok.mp h | exact ok_ok.mpr h
theorem ok_par3 {i j l : Nat} : Ok (sPar3 i j l al env st) P ↔ Ok (al env st) fun vs s => match vs with | [v, w, u] => P (.nx (((env.set i (some v)).set j (some w)).set l (some u))) s | _ => False := by
  rw [sPar3, ok_bind]
  constructor <;> exact fun h => h.mono fun vs s h => by
    match vs, h with
    | [v, w, u], h => first | exact ok_ok.mp h | exact ok_ok.mpr h
theorem ok_retF : Ok (Lq.ret r) T ↔ Ok r fun fl s => match fl with | .rt v => T v s | .nx _ => T .non s | _ => False := by
  rw [Lq.ret, ok_bind]
  constructor <;> exact fun h => h.mono fun fl s h => by
    cases fl <;> first | exact ok_ok.mp h | exact ok_ok.mpr h | exact (ok_no.mp h) | exact h.elim
theorem ok_var {i : Nat} : Ok (eVar i env st) T ↔ ∃ v, env[i]? = some (some v) ∧ T v st := by
  unfold eVar
  constructor
  · intro h
    split at h
    · rename_i v e; exact ⟨v, e, ok_ok.mp h⟩
    · exact (ok_no.mp h).elim
  · rintro ⟨v, e, h⟩
    rw [e]; exact ok_ok.mpr h
theorem ok_C {v : PV} : Ok (eC v env st) T ↔ T v st := ok_ok
theorem ok_bin {o : PV → PV → Store → Option PV} : Ok (eBin o f g env st) T ↔ Ok (f env st) fun x s1 => Ok (g env s1) fun y s2 => Op (o x y s2) fun z => T z s2 := by
  rw [eBin, ok_bind]
  constructor <;> exact fun h => h.mono fun x s1 h => by
    rw [ok_bind] at *
    exact h.mono fun y s2 h => by cases e : o x y s2 <;> simp only [e, op_some, op_none, ok_ok, ok_no] at h ⊢ <;> exact h
theorem ok_un {o : PV → Option PV} : Ok (eUn o f env st) T ↔ Ok (f env st) fun x s1 => Op (o x) fun z => T z s1 := by
  rw [eUn, ok_bind]
  constructor <;> exact fun h => h.mono fun x s1 h => by cases e : o x <;> simp only [e, op_some, op_none, ok_ok, ok_no] at h ⊢ <;> exact h
theorem ok_aNil : Ok (aNil env st) L ↔ L [] st := ok_ok
theorem ok_aCons : Ok (aCons f al env st) L ↔ Ok (f env st) fun x s1 => Ok (al env s1) fun xs s2 => L (x :: xs) s2 := by
  rw [aCons, ok_bind]; simp only [ok_bind, ok_ok]
theorem ok_tup : Ok (eTup al env st) T ↔ Ok (al env st) fun xs s => xs.length ≤ sizeLine ∧ T (.tup xs) s := by
  rw [eTup, ok_bind]
  constructor <;> exact fun h => h.mono fun xs s h => by
    first
      | (split at h
         · exact ⟨by assumption, ok_ok.mp h⟩
         · exact (ok_no.mp h).elim)
      | (rw [if_pos h.1]; exact ok_ok.mpr h.2)
theorem ok_disp : Ok (fDisp al env st) L ↔ Ok (al env st) fun xs s => xs.length ≤ sizeLine ∧ L xs s := by
  rw [fDisp, ok_bind]
  constructor <;> exact fun h => h.mono fun xs s h => by
    first
      | (split at h
         · exact ⟨by assumption, ok_ok.mp h⟩
         · exact (ok_no.mp h).elim)
      | (rw [if_pos h.1]; exact ok_ok.mpr h.2)
theorem ok_fz : Ok (eFz al env st) T ↔ Ok (al env st) fun xs s => T (.lst xs) s := by rw [eFz, ok_bind]; simp only [ok_ok]
theorem ok_ow : Ok (eOw al env st) T ↔ Ok (al env st) fun xs s => T (.own s.length) (s ++ [.lst xs]) := by rw [eOw, ok_bind]; simp only [ok_ok]
theorem ok_call {n : Nat} {fn : Fn} : Ok (eCall n fn al env st) T ↔ Ok (al env st) fun xs s => xs.length = n ∧ Ok (fn xs s) T := by
  rw [eCall, ok_bind]
  constructor <;> exact fun h => h.mono fun xs s h => by
    first
      | (split at h
         · exact ⟨by assumption, h⟩
         · exact (ok_no.mp h).elim)
      | (rw [if_pos h.1]; exact h.2)
theorem ok_cb {o : List PV → Store → Option PV} : Ok (eCB o al env st) T ↔ Ok (al env st) fun xs s => Op (o xs s) fun z => T z s := by
  rw [eCB, ok_bind]
  constructor <;> exact fun h => h.mono fun xs s1 h => by cases e : o xs s1 <;> simp only [e, op_some, op_none, ok_ok, ok_no] at h ⊢ <;> exact h
theorem ok_toB {r : R PV} : Ok (toB r) B ↔ Ok r fun v s => match v with | .bl b => B b s | _ => False := by
  rw [toB, ok_bind]
  constructor <;> exact fun h => h.mono fun v s h => by
    cases v <;> first | exact ok_ok.mp h | exact ok_ok.mpr h | exact (ok_no.mp h) | exact h.elim
theorem ok_tE : Ok (tE f env st) B ↔ Ok (f env st) fun v s => match v with | .bl b => B b s | _ => False := ok_toB
theorem ok_tAnd : Ok (tAndF c d env st) B ↔ Ok (c env st) fun k s => if k = true then Ok (d env s) B else B false s := by
  rw [tAndF, ok_bind]; simp only [ok_ite, ok_ok]
theorem ok_tOr : Ok (tOrF c d env st) B ↔ Ok (c env st) fun k s => if k = true then B true s else Ok (d env s) B := by
  rw [tOrF, ok_bind]; simp only [ok_ite, ok_ok]
theorem ok_tNot : Ok (tNotF c env st) B ↔ Ok (c env st) fun k s => B (!k) s := by rw [tNotF, ok_bind]; simp only [ok_ok]
theorem ok_eIf : Ok (eIf c f g env st) T ↔ Ok (c env st) fun k s => if k = true then Ok (f env s) T else Ok (g env s) T := by
  rw [eIf, ok_bind]; simp only [ok_ite]
theorem ok_eAnd : Ok (eAnd f g env st) T ↔ Ok (f env st) fun v s => match v with | .bl b => if b = true then Ok (g env s) T else T (.bl false) s | _ => False := by
  rw [eAnd, ok_bind]
  constructor <;> exact fun h => h.mono fun v s h => by
    cases v with
    | bl b => cases b <;> first | exact h | exact ok_ok.mp h | exact ok_ok.mpr h
    | _ => first | exact ok_no.mp h | exact h.elim
theorem ok_eOr : Ok (eOr f g env st) T ↔ Ok (f env st) fun v s => match v with | .bl b => if b = true then T (.bl true) s else Ok (g env s) T | _ => False := by
  rw [eOr, ok_bind]
  constructor <;> exact fun h => h.mono fun v s h => by
    cases v with
    | bl b => cases b <;> first | exact h | exact ok_ok.mp h | exact ok_ok.mpr h
    | _ => first | exact ok_no.mp h | exact h.elim
theorem ok_eNot : Ok (eNot f env st) T ↔ Ok (f env st) fun v s => match v with | .bl b => T (.bl (!b)) s | _ => False := by
  rw [eNot, ok_bind]
  constructor <;> exact fun h => h.mono fun v s h => by
    cases v <;> first | exact ok_ok.mp h | exact ok_ok.mpr h | exact (ok_no.mp h) | exact h.elim
theorem ok_chain {o o' : PV → PV → Store → Option PV} : Ok (eChain o o' f g h env st) T ↔ Ok (f env st) fun x s1 => Ok (g env s1) fun y s2 => Op (o x y s2) fun z => match z with
    | .bl b => if b = true then Ok (h env s2) fun w s3 => Op (o' y w s3) fun u => T u s3 else T (.bl false) s2
    | _ => False := by
  rw [eChain, ok_bind]
  constructor <;> exact fun q => q.mono fun x s1 q => by
    rw [ok_bind] at *
    exact q.mono fun y s2 q => by
      cases e : o x y s2 with
      | none => simp only [e] at q; first | exact (ok_no.mp q).elim | exact (by obtain ⟨_, e, _⟩ := q; cases e)
      | some z =>
        simp only [e, op_some] at q ⊢
        cases z with
        | bl b =>
          cases b
          · first | exact ok_ok.mp q | exact ok_ok.mpr q
          · simp only [if_true, ok_bind] at q ⊢
            exact q.mono fun w s3 q => by cases e2 : o' y w s3 <;> simp only [e2, op_some, op_none, ok_ok, ok_no] at q ⊢ <;> exact q
        | _ => first | exact (ok_no.mp q).elim | exact q.elim
theorem ok_iVal : Ok (iVal f env st) L ↔ Ok (f env st) fun p s => ∃ xs, asV s p = some xs ∧ L xs s := by
  rw [iVal, ok_bind]
  constructor <;> exact fun h => h.mono fun p s h => by
    first
      | (split at h
         · rename_i xs e; exact ⟨xs, e, ok_ok.mp h⟩
         · exact (ok_no.mp h).elim)
      | (obtain ⟨xs, e, h⟩ := h; rw [e]; exact ok_ok.mpr h)
theorem ok_range1 : Ok (iRange1 al env st) L ↔ Ok (al env st) fun vs s => match vs with | [.int j] => (okR j = true ∧ j.toNat ≤ sizeLine) ∧ L (rng 0 j.toNat) s | _ => False := by
  rw [iRange1, ok_bind]
  constructor <;> exact fun h => h.mono fun vs s h => by
    split at h
    · first
      | (split at h
         · exact ⟨by assumption, ok_ok.mp h⟩
         · exact (ok_no.mp h).elim)
      | (simp only [if_pos h.1]; exact ok_ok.mpr h.2)
    · first | exact (ok_no.mp h).elim | exact h.elim
theorem ok_range2 : Ok (iRange2 al env st) L ↔ Ok (al env st) fun vs s => match vs with | [.int i, .int j] => (okR i = true ∧ okR j = true ∧ (j - i).toNat ≤ sizeLine) ∧ L (rng i (j - i).toNat) s | _ => False := by
  rw [iRange2, ok_bind]
  constructor <;> exact fun h => h.mono fun vs s h => by
    split at h
    · first
      | (split at h
         · exact ⟨by assumption, ok_ok.mp h⟩
         · exact (ok_no.mp h).elim)
      | (simp only [if_pos h.1]; exact ok_ok.mpr h.2)
    · first | exact (ok_no.mp h).elim | exact h.elim
theorem ok_for {ft : PV → Ev → Store → R Ev} {gl : XL} : Ok (sFor gl ft a env st) P ↔ Ok (gl env st) fun xs s => Ok (loopV ft a xs env s) P := by rw [sFor, ok_bind]
theorem ok_gNm {i : Nat} {p : PV} {E : Ev → Store → Prop} : Ok (gNm i p env st) E ↔ E (env.set i (some p)) st := ok_ok
theorem ok_gTp {n : Nat} {gs : List PV → Ev → Store → R Ev} {xs : List PV} {E : Ev → Store → Prop} : Ok (gTp n gs (.tup xs) env st) E ↔ xs.length = n ∧ Ok (gs xs env st) E := by
  simp only [gTp]
  by_cases w : xs.length = n
  · rw [if_pos w]; exact ⟨fun h => ⟨w, h⟩, fun h => h.2⟩
  · rw [if_neg w]; exact ⟨fun h => (ok_no.mp h).elim, fun h => absurd h.1 w⟩
theorem ok_gsNil {E : Ev → Store → Prop} : Ok (gsNil [] env st) E ↔ E env st := ok_ok
theorem ok_gsCons {g : PV → Ev → Store → R Ev} {gs : List PV → Ev → Store → R Ev} {x : PV} {xs : List PV} {E : Ev → Store → Prop} : Ok (gsCons g gs (x :: xs) env st) E ↔ Ok (g x env st) fun e s => Ok (gs xs e s) E := by
  simp only [gsCons, ok_bind]
theorem ok_frz : Ok (eFrz f env st) T ↔ Ok (f env st) (frzK T) := by
  rw [eFrz, ok_bind]
  constructor <;> exact fun h => h.mono fun v s h => by
    cases v with
    | own k =>
      simp only [frzK] at h ⊢
      cases e : s[k]? with
      | none => simp only [e, ok_no] at h
      | some c => cases c <;> simp only [e, ok_ok, ok_no] at h ⊢ <;> exact h
    | lst xs => simp only [frzK, ok_ok] at h ⊢; exact h
    | tup xs => simp only [frzK, ok_ok] at h ⊢; exact h
    | _ => simp only [frzK, ok_no] at h
theorem ok_isi {b : Kd} : Ok (eIsi b f env st) T ↔ Ok (f env st) fun p s => ∃ k, kdOf s p = some k ∧ T (.bl (k.isa b)) s := by
  rw [eIsi, ok_bind]
  constructor <;> exact fun h => h.mono fun p s h => by
    first
      | (split at h
         · rename_i xs e; exact ⟨xs, e, ok_ok.mp h⟩
         · exact (ok_no.mp h).elim)
      | (obtain ⟨xs, e, h⟩ := h; rw [e]; exact ok_ok.mpr h)
theorem ok_pNone {O : Option Int → Store → Prop} : Ok (pNone env st) O ↔ O none st := ok_ok
theorem ok_pSome {O : Option Int → Store → Prop} : Ok (pSome f env st) O ↔ Ok (f env st) fun v s => match v with | .int i => O (some i) s | _ => False := by
  rw [pSome, ok_bind]
  constructor <;> exact fun h => h.mono fun v s h => by
    cases v <;> first | exact ok_ok.mp h | exact ok_ok.mpr h | exact (ok_no.mp h) | exact h.elim
theorem ok_cut {lo hi : XO} : Ok (eCut f lo hi env st) T ↔ Ok (f env st) fun x s1 => Ok (lo env s1) fun l s2 => Ok (hi env s2) fun u s3 => Op (oCut x l u s3) fun z => T z s3 := by
  rw [eCut, ok_bind]
  constructor <;> exact fun h => h.mono fun x s1 h => by
    rw [ok_bind] at *
    exact h.mono fun l s2 h => by
      rw [ok_bind] at *
      exact h.mono fun u s3 h => by cases e : oCut x l u s3 <;> simp only [e, op_some, op_none, ok_ok, ok_no] at h ⊢ <;> exact h
theorem ok_sm {go : Str → PV → Store → Option PV} : Ok (eSm go f g env st) T ↔ Ok (f env st) fun v s => match v with | .str z => Ok (g env s) fun y s2 => Op (go z y s2) fun w => T w s2 | _ => False := by
  rw [eSm, ok_bind]
  constructor <;> exact fun h => h.mono fun v s h => by
    cases v with
    | str z =>
      simp only [ok_bind] at h ⊢
      exact h.mono fun y s2 h => by cases e : go z y s2 <;> simp only [e, op_some, op_none, ok_ok, ok_no] at h ⊢ <;> exact h
    | _ => first | exact ok_no.mp h | exact h.elim
theorem ok_sorted : Ok (fSorted f env st) L ↔ Ok (f env st) fun p s => ∃ xs, asL s p = some xs ∧ srtOk xs = true ∧ L (psort xs) s := by
  rw [fSorted, ok_bind]
  constructor <;> exact fun h => h.mono fun p s h => by
    first
      | (split at h
         · rename_i xs e
           split at h
           · exact ⟨xs, e, by assumption, ok_ok.mp h⟩
           · exact (ok_no.mp h).elim
         · exact (ok_no.mp h).elim)
      | (obtain ⟨xs, e, q, h⟩ := h; simp only [e, if_pos q]; exact ok_ok.mpr h)
theorem ok_fList : Ok (fList f env st) L ↔ Ok (f env st) fun p s => ∃ xs, asS s p = some xs ∧ L xs s := by
  rw [fList, ok_bind]
  constructor <;> exact fun h => h.mono fun p s h => by
    first
      | (split at h
         · rename_i xs e; exact ⟨xs, e, ok_ok.mp h⟩
         · exact (ok_no.mp h).elim)
      | (obtain ⟨xs, e, h⟩ := h; rw [e]; exact ok_ok.mpr h)
theorem ok_fAdd : Ok (fAdd f g env st) L ↔ Ok (f env st) fun x s1 => Ok (g env s1) fun y s2 => ∃ xs ys, asM s2 x = some xs ∧ asM s2 y = some ys ∧ xs.length + ys.length ≤ sizeLine ∧ L (xs ++ ys) s2 := by
  rw [fAdd, ok_bind]
  constructor <;> exact fun h => h.mono fun x s1 h => by
    rw [ok_bind] at *
    exact h.mono fun y s2 h => by
      first
        | (split at h
           · rename_i xs ys e1 e2
             split at h
             · exact ⟨xs, ys, e1, e2, by assumption, ok_ok.mp h⟩
             · exact (ok_no.mp h).elim
           · exact (ok_no.mp h).elim)
        | (obtain ⟨xs, ys, e1, e2, q, h⟩ := h; simp only [e1, e2, if_pos q]; exact ok_ok.mpr h)
end
end Lq
end
section
set_option Elab.async false
set_option linter.all false
set_option maxRecDepth 10000
namespace Lq
open PySem PySem.Spec PyProof.Rows L2
section
variable {env : Ev} {st s : Store} {P : Fl → Store → Prop} {T : PV → Store → Prop} {B : Bool → Store → Prop} {L : List PV → Store → Prop} {a b : XS} {f g h : XE} {c d : Ev → Store → R Bool} {al : XL}
theorem ok_fMul : Ok (fMul f g env st) L ↔ Ok (f env st) fun x s1 => Ok (g env s1) fun y s2 => ∃ xs k, asM s2 x = some xs ∧ y = .int k ∧ (-(2 ^ 63) ≤ k ∧ k < 2 ^ 63 ∧ xs.length * k.toNat ≤ sizeLine) ∧ L (List.replicate k.toNat xs).flatten s2 := by
  rw [fMul, ok_bind]
  constructor <;> exact fun h => h.mono fun x s1 h => by
    rw [ok_bind] at *
    exact h.mono fun y s2 h => by
      first
        | (split at h
           · rename_i xs k e1
             split at h
             · exact ⟨xs, k, e1, rfl, by assumption, ok_ok.mp h⟩
             · exact (ok_no.mp h).elim
           · exact (ok_no.mp h).elim)
        | (obtain ⟨xs, k, e1, rfl, q, h⟩ := h; simp only [e1, if_pos q]; exact ok_ok.mpr h)
theorem ok_fld {x m : Str} : Ok (eFld x m f env st) T ↔ Ok (f env st) fun v s => ∃ k fs p, v = .own k ∧ s[k]? = some (.ins x fs) ∧ fs.lookup m = some p ∧ T p s := by
  rw [eFld, ok_bind]
  refine ⟨fun h => h.mono fun v s h => ?_, fun h => h.mono fun v s h => ?_⟩
  · cases v with
    | own k =>
      simp only at h
      cases e1 : s[k]? with
      | none => simp only [e1, ok_no] at h
      | some c =>
        cases c with
        | ins y fs =>
          simp only [e1] at h
          by_cases q : y = x
          · subst q
            simp only [if_true] at h
            cases e3 : fs.lookup m with
            | none => simp only [e3, ok_no] at h
            | some p => simp only [e3, ok_ok] at h; exact ⟨k, fs, p, rfl, e1, e3, h⟩
          · simp only [if_neg q, ok_no] at h
        | _ => simp only [e1, ok_no] at h
    | _ => exact (ok_no.mp h).elim
  · obtain ⟨k, fs, p, rfl, e1, e2, h⟩ := h
    simp only [e1, e2, if_true]
    exact ok_ok.mpr h
theorem ok_fldS {x m : Str} : Ok (sFldS x m f g env st) P ↔ Ok (g env st) fun p s1 => Ok (f env s1) fun v s => ∃ k fs, v = .own k ∧ s[k]? = some (.ins x fs) ∧ fs.length < 900 ∧ P (.nx env) (s.set k (.ins x (putP m p fs))) := by
  rw [sFldS, ok_bind]
  refine ⟨fun h0 => h0.mono fun p s1 h1 => ?_, fun h0 => h0.mono fun p s1 h1 => ?_⟩
  · rw [ok_bind] at h1
    refine h1.mono fun v s h => ?_
    clear h1 h0
    cases v with
    | own k =>
      simp only at h
      cases e1 : s[k]? with
      | none => simp only [e1, ok_no] at h
      | some c =>
        cases c with
        | ins y fs =>
          simp only [e1] at h
          by_cases q : y = x ∧ fs.length < 900
          · simp only [if_pos q, ok_ok] at h
            obtain ⟨rfl, q⟩ := q
            exact ⟨k, fs, rfl, e1, q, h⟩
          · simp only [if_neg q, ok_no] at h
        | _ => simp only [e1, ok_no] at h
    | _ => exact (ok_no.mp h).elim
  · rw [ok_bind]
    refine h1.mono fun v s h => ?_
    obtain ⟨k, fs, rfl, e1, e2, h⟩ := h
    simp only [e1, e2, true_and, if_true]
    exact ok_ok.mpr h
theorem ok_meth {x m : Str} {n : Nat} {fn : Fn} : Ok (eMeth x m n fn f al env st) T ↔ Ok (f env st) fun v s => ∃ k fs, v = .own k ∧ s[k]? = some (.ins x fs) ∧ fs.lookup m = none ∧ Ok (al env s) fun vs s2 => vs.length + 1 = n ∧ Ok (fn (.own k :: vs) s2) T := by
  rw [eMeth, ok_bind]
  refine ⟨fun h0 => h0.mono fun v s h => ?_, fun h0 => h0.mono fun v s h => ?_⟩
  · clear h0
    cases v with
    | own k =>
      simp only at h
      cases e1 : s[k]? with
      | none => simp only [e1, ok_no] at h
      | some c =>
        cases c with
        | ins y fs =>
          simp only [e1] at h
          by_cases q : y = x ∧ fs.lookup m = none
          · simp only [if_pos q, ok_bind] at h
            obtain ⟨rfl, q⟩ := q
            refine ⟨k, fs, rfl, e1, q, h.mono fun vs s2 h => ?_⟩
            split at h
            · exact ⟨by assumption, h⟩
            · exact (ok_no.mp h).elim
          · simp only [if_neg q, ok_no] at h
        | _ => simp only [e1, ok_no] at h
    | _ => exact (ok_no.mp h).elim
  · obtain ⟨k, fs, rfl, e1, e2, h⟩ := h
    simp only [e1, e2, true_and, if_true]
    rw [ok_bind]
    exact h.mono fun vs s2 h => by rw [if_pos h.1]; exact h.2
theorem ok_make {x : Str} {n : Nat} {fn : Fn} : Ok (eMake x n fn al env st) T ↔ Ok (al env st) fun vs s => vs.length + 1 = n ∧ Ok (fn (.own s.length :: vs) (s ++ [.ins x []])) fun v s2 => v = .non ∧ T (.own s.length) s2 := by
  rw [eMake, ok_bind]
  constructor <;> exact fun h => h.mono fun vs s h => by
    first
      | (split at h
         · refine ⟨by assumption, ?_⟩
           rw [ok_bind] at h
           exact h.mono fun v s2 h => by
             split at h
             · exact ⟨rfl, ok_ok.mp h⟩
             · exact (ok_no.mp h).elim
         · exact (ok_no.mp h).elim)
      | (rw [if_pos h.1, ok_bind]
         exact h.2.mono fun v s2 h => by obtain ⟨rfl, h⟩ := h; exact ok_ok.mpr h)
theorem ok_lm {go : List PV → List PV → Store → Option (PV × List PV)} : Ok (eLm go f al env st) T ↔ Ok (f env st) fun v s => ∃ k zs, v = .own k ∧ s[k]? = some (.lst zs) ∧ Ok (al env s) fun ys s2 => ∃ xs w xs', s2[k]? = some (.lst xs) ∧ go xs ys s2 = some (w, xs') ∧ T w (s2.set k (.lst xs')) := by
  rw [eLm, ok_bind]
  constructor <;> exact fun h => h.mono fun v s h => by
    first
      | (split at h
         · split at h
           · rename_i k _ zs e1
             refine ⟨k, zs, rfl, e1, ?_⟩
             rw [ok_bind] at h
             exact h.mono fun ys s2 h => by
               split at h
               · split at h
                 · rename_i xs e2 _ w xs' e3
                   exact ⟨xs, w, xs', e2, e3, ok_ok.mp h⟩
                 · exact (ok_no.mp h).elim
               · exact (ok_no.mp h).elim
           · exact (ok_no.mp h).elim
         · exact (ok_no.mp h).elim)
      | (obtain ⟨k, zs, rfl, e1, h⟩ := h
         simp only [e1]
         rw [ok_bind]
         exact h.mono fun ys s2 h => by
           obtain ⟨xs, w, xs', e2, e3, h⟩ := h
           simp only [e2, e3]
           exact ok_ok.mpr h)
theorem ok_pop : Ok (ePop f env st) T ↔ Ok (f env st) fun v s => ∃ k xs y, v = .own k ∧ s[k]? = some (.lst xs) ∧ xs[xs.length - 1]? = some y ∧ T y (s.set k (.lst xs.dropLast)) := by
  rw [ePop, ok_bind]
  constructor <;> exact fun h => h.mono fun v s h => by
    first
      | (split at h
         · split at h
           · split at h
             · rename_i k _ xs e1 _ y e2
               exact ⟨k, xs, y, rfl, e1, e2, ok_ok.mp h⟩
             · exact (ok_no.mp h).elim
           · exact (ok_no.mp h).elim
         · exact (ok_no.mp h).elim)
      | (obtain ⟨k, xs, y, rfl, e1, e2, h⟩ := h
         simp only [e1, e2]
         exact ok_ok.mpr h)
theorem ok_lenO {x : Str} {fn : Fn} : Ok (eLenO x fn f env st) T ↔ Ok (f env st) fun v s => ∃ k fs, v = .own k ∧ s[k]? = some (.ins x fs) ∧ Ok (fn [.own k] s) fun r s2 => ∃ m, r = .int m ∧ (0 ≤ m ∧ m < 2 ^ 63) ∧ T (.int m) s2 := by
  rw [eLenO, ok_bind]
  refine ⟨fun h => h.mono fun v s h => ?_, fun h => h.mono fun v s h => ?_⟩
  · skip
    cases v with
    | own k =>
      simp only at h
      cases e1 : s[k]? with
      | none => simp only [e1, ok_no] at h
      | some c =>
        cases c with
        | ins y fs =>
          simp only [e1] at h
          by_cases q : y = x
          · subst q
            simp only [if_true, ok_bind] at h
            refine ⟨k, fs, rfl, e1, h.mono fun r s2 h => ?_⟩
            cases r with
            | int m =>
              simp only at h
              split at h
              · exact ⟨_, rfl, by assumption, ok_ok.mp h⟩
              · exact (ok_no.mp h).elim
            | _ => exact (ok_no.mp h).elim
          · simp only [if_neg q, ok_no] at h
        | _ => simp only [e1, ok_no] at h
    | _ => exact (ok_no.mp h).elim
  · obtain ⟨k, fs, rfl, e1, h⟩ := h
    simp only [e1, if_true]
    rw [ok_bind]
    exact h.mono fun r s2 h => by
      obtain ⟨m, rfl, e2, h⟩ := h
      simp only [if_pos e2]
      exact ok_ok.mpr h
theorem ok_enumT : Ok (iEnumT al env st) L ↔ Ok (al env st) fun vs s => ∃ p, vs = [p] ∧ ∃ xs, asV s p = some xs ∧ L (nums xs) s := by
  rw [iEnumT, ok_bind]
  constructor <;> exact fun h => h.mono fun vs s h => by
    first
      | (split at h
         · exact ⟨_, rfl, _, rfl, ok_ok.mp h⟩
         · split at h
           · rename_i p hp _ xs e
             refine ⟨_, rfl, xs, ?_, ok_ok.mp h⟩
             cases p <;> first | exact e | (simp [asVL] at e)
           · exact (ok_no.mp h).elim
         · exact (ok_no.mp h).elim)
      | (obtain ⟨p, rfl, xs, e, h⟩ := h
         cases p <;> first
           | (cases e; exact ok_ok.mpr h)
           | (simp only [asV] at e; cases e; exact ok_ok.mpr h)
           | (simp only [asVL, e]; exact ok_ok.mpr h))
theorem ok_loop {ft : PV → Ev → Store → R Ev} (I : Nat → Ev → Store → Prop) : ∀ (xs : List PV) (q : Nat) (env : Ev) (st : Store),
    (∀ i x, xs[i]? = some x → ∀ env st, I (q + i) env st → Ok (ft x env st) fun e s => Ok (a e s) fun fl s' => match fl with | .nx e2 => I (q + i + 1) e2 s' | .ct e2 => I (q + i + 1) e2 s' | .rt v => P (.rt v) s' | .bk e2 => P (.nx e2) s') →
    I q env st → (∀ env st, I (q + xs.length) env st → P (.nx env) st) → Ok (loopV ft a xs env st) P
  | [], q, env, st, _, h, k => ok_ok.mpr (k env st h)
  | x :: r, q, env, st, H, h, k => by
    rw [loopV, ok_bind]
    refine (H 0 x rfl env st h).mono fun e s1 hh => ?_
    rw [ok_bind]
    refine hh.mono fun fl s2 hh => ?_
    have goOn : ∀ e2, I (q + 1) e2 s2 → Ok (loopV ft a r e2 s2) P := fun e2 h2 => ok_loop I r (q + 1) e2 s2 (fun i y hy env st hp => by
      have := H (i + 1) y (by simpa using hy) env st (by rw [show q + (i + 1) = q + 1 + i by omega]; exact hp)
      rw [show q + (i + 1) + 1 = q + 1 + i + 1 by omega] at this
      exact this) h2 fun env st h3 => k env st (by rw [List.length_cons, show q + (r.length + 1) = q + 1 + r.length by omega]; exact h3)
    cases fl with
    | nx e2 => exact goOn e2 hh
    | ct e2 => exact goOn e2 hh
    | rt v => exact ok_ok.mpr hh
    | bk e2 => exact ok_ok.mpr hh
theorem ok_compV {env : Ev} {ft : PV → Ev → Store → R Ev} {tt : Ev → Store → R Bool} {fe : XE} (J : Nat → List PV → Store → Prop) : ∀ (xs : List PV) (q : Nat) (pre : List PV) (st : Store) {L : List PV → Store → Prop},
    (∀ i x, xs[i]? = some x → ∀ pre st, J (q + i) pre st → Ok (ft x env st) fun e s => Ok (tt e s) fun k s' => if k = true then Ok (fe e s') fun v s2 => J (q + i + 1) (pre ++ [v]) s2 else J (q + i + 1) pre s') →
    J q pre st → (∀ all st, J (q + xs.length) (pre ++ all) st → L all st) → Ok (compV ft tt fe env xs st) L
  | [], q, pre, st, L, _, h, k => by rw [compV]; exact ok_ok.mpr (k [] st (by rw [List.append_nil]; exact h))
  | x :: r, q, pre, st, L, H, h, k => by
    rw [compV, ok_bind]
    refine (H 0 x rfl pre st h).mono fun e s1 hh => ?_
    rw [ok_bind]
    refine hh.mono fun b s2 hh => ?_
    have H' : ∀ i y, r[i]? = some y → ∀ pre st, J (q + 1 + i) pre st → Ok (ft y env st) fun e s => Ok (tt e s) fun k s' => if k = true then Ok (fe e s') fun v s2 => J (q + 1 + i + 1) (pre ++ [v]) s2 else J (q + 1 + i + 1) pre s' := fun i y hy pre st hp => by
      have := H (i + 1) y (by simpa using hy) pre st (by rw [show q + (i + 1) = q + 1 + i by omega]; exact hp)
      rw [show q + (i + 1) + 1 = q + 1 + i + 1 by omega] at this
      exact this
    have len : q + (x :: r).length = q + 1 + r.length := by rw [List.length_cons]; omega
    cases b with
    | true =>
      rw [if_pos rfl] at hh ⊢
      rw [ok_bind]
      refine hh.mono fun v s3 hh => ?_
      rw [ok_bind]
      exact ok_compV J r (q + 1) (pre ++ [v]) s3 H' hh fun all st h3 => ok_ok.mpr (k (v :: all) st (by rw [len]; simpa using h3))
    | false =>
      rw [if_neg (by decide)] at hh ⊢
      exact ok_compV J r (q + 1) pre s2 H' hh fun all st h3 => k all st (by rw [len]; exact h3)
theorem ok_comp {gl : XL} {ft : PV → Ev → Store → R Ev} {tt : Ev → Store → R Bool} {fe : XE} {vs : List Nat} : Ok (fComp gl ft tt fe vs env st) L ↔ Ok (gl env st) fun xs s => Ok (compV ft tt fe (wipeE env vs) xs s) L := by
  rw [fComp, ok_bind]; simp only [ok_noX]
theorem ok_map {ft : PV → Ev → Store → R Ev} {fe : XE} (F : PV → PV) {xs : List PV} {st : Store} (h : ∀ x, x ∈ xs → Ok (ft x env st) fun e s => Ok (fe e s) fun v s2 => v = F x ∧ s2 = st) (k : L (xs.map F) st) : Ok (compV ft (fun _ st => .ok true st) fe env xs st) L := by
  refine ok_compV (fun i pre s => pre = (xs.take i).map F ∧ s = st) xs 0 [] st (fun i x hx pre s hp => ?_) ⟨rfl, rfl⟩ fun all s hp => ?_
  · obtain ⟨rfl, rfl⟩ := hp
    refine (h x (List.mem_of_getElem? hx)).mono fun e s1 h1 => ok_ok.mpr ?_
    rw [if_pos rfl]
    refine h1.mono fun v s2 h2 => ?_
    obtain ⟨rfl, rfl⟩ := h2
    rw [Nat.zero_add, List.take_add_one, hx, List.map_append]
    exact ⟨rfl, rfl⟩
  · obtain ⟨e, rfl⟩ := hp
    rw [Nat.zero_add, List.take_length, List.nil_append] at e
    rw [e]; exact k
theorem ok_mapE {α : Type} {env : Ev} {L : List PV → Store → Prop} {ft : PV → Ev → Store → R Ev} {fe : XE} (emb : α → PV) (F : α → PV) {zs : List α} {st : Store} (h : ∀ z, z ∈ zs → Ok (ft (emb z) env st) fun e s => Ok (fe e s) fun v s2 => v = F z ∧ s2 = st) (k : L (zs.map F) st) : Ok (compV ft (fun _ st => .ok true st) fe env (zs.map emb) st) L := by
  refine ok_compV (fun i pre s => pre = (zs.take i).map F ∧ s = st) (zs.map emb) 0 [] st (fun i x hx pre s hp => ?_) ⟨rfl, rfl⟩ fun all s hp => ?_
  · obtain ⟨rfl, rfl⟩ := hp
    rw [List.getElem?_map] at hx
    cases e : zs[i]? with
    | none => rw [e] at hx; cases hx
    | some z =>
      rw [e] at hx
      cases hx
      refine (h z (List.mem_of_getElem? e)).mono fun e1 s1 h1 => ok_ok.mpr ?_
      rw [if_pos rfl]
      refine h1.mono fun v s2 h2 => ?_
      obtain ⟨rfl, rfl⟩ := h2
      rw [Nat.zero_add, List.take_add_one, e, List.map_append]
      exact ⟨rfl, rfl⟩
  · obtain ⟨e, rfl⟩ := hp
    rw [Nat.zero_add, List.length_map, List.take_length, List.nil_append] at e
    rw [e]; exact k
theorem ok_fmapE {α : Type} {env : Ev} {L : List PV → Store → Prop} {ft : PV → Ev → Store → R Ev} {tt : Ev → Store → R Bool} {fe : XE} (emb : α → PV) (p : α → Bool) (F : α → PV) {zs : List α} {st : Store} (h : ∀ z, z ∈ zs → Ok (ft (emb z) env st) fun e s => Ok (tt e s) fun k s' => k = p z ∧ s' = st ∧ (p z = true → Ok (fe e st) fun v s2 => v = F z ∧ s2 = st)) (k : L ((zs.filter p).map F) st) : Ok (compV ft tt fe env (zs.map emb) st) L := by
  refine ok_compV (fun i pre s => pre = ((zs.take i).filter p).map F ∧ s = st) (zs.map emb) 0 [] st (fun i x hx pre s hp => ?_) ⟨rfl, rfl⟩ fun all s hp => ?_
  · obtain ⟨rfl, rfl⟩ := hp
    rw [List.getElem?_map] at hx
    cases e : zs[i]? with
    | none => rw [e] at hx; cases hx
    | some z =>
      rw [e] at hx
      cases hx
      refine (h z (List.mem_of_getElem? e)).mono fun e1 s1 h1 => h1.mono fun b s2 h2 => ?_
      obtain ⟨rfl, rfl, h3⟩ := h2
      rw [Nat.zero_add, List.take_add_one, e, List.filter_append, List.map_append]
      split
      · rename_i q
        refine (h3 q).mono fun v s2 h2 => ?_
        obtain ⟨rfl, rfl⟩ := h2
        simp [q]
      · rename_i q
        simp [q]
  · obtain ⟨e, rfl⟩ := hp
    rw [Nat.zero_add, List.length_map, List.take_length, List.nil_append] at e
    rw [e]; exact k
end
theorem szl : sizeLine = 16777216 := by decide
def wkA := And.intro @ok_seq (And.intro @ok_nil (And.intro @ok_set (And.intro @ok_asg (And.intro @ok_drop (And.intro @ok_ret (And.intro @ok_if (And.intro @ok_par (And.intro @ok_par3 (And.intro @ok_var (And.intro @ok_C (And.intro @ok_bin (And.intro @ok_un (And.intro @ok_aNil (And.intro @ok_aCons (And.intro @ok_tup (And.intro @ok_disp (And.intro @ok_fz (And.intro @ok_ow (And.intro @ok_call (And.intro @ok_cb (And.intro @ok_tE (And.intro @ok_tAnd (And.intro @ok_tOr (And.intro @ok_tNot (And.intro @ok_eIf (And.intro @ok_eAnd (And.intro @ok_eOr (And.intro @ok_eNot (And.intro @ok_chain (And.intro @ok_iVal (And.intro @ok_range1 (And.intro @ok_range2 (And.intro @ok_for (And.intro @ok_gNm (And.intro @ok_gTp (And.intro @ok_gsNil (And.intro @ok_gsCons (And.intro @ok_isi (And.intro @ok_frz (And.intro @frzK_own (And.intro @frzK_lst (And.intro @frzK_tup (And.intro @ok_pNone (And.intro @ok_pSome (And.intro @ok_cut (And.intro @ok_sm (And.intro @ok_sorted (And.intro @ok_fList (And.intro @ok_fAdd (And.intro @ok_fMul (And.intro @ok_fld (And.intro @ok_fldS (And.intro @ok_meth (And.intro @ok_make (And.intro @ok_lm (And.intro @ok_pop (And.intro @ok_lenO (And.intro @ok_enumT (And.intro @ok_comp (And.intro @ok_bind (And.intro @ok_ok (And.intro @ok_no (And.intro @op_some (And.intro @nxK_rt (And.intro @v0 (And.intro @vS (And.intro szl (And.intro @oNe_int (And.intro @oEq_int (And.intro @oAdd_int (And.intro @oSub_int (And.intro @oGt_int (And.intro @oGe_int (And.intro @oLt_int (And.intro @PV.own.injEq (@PV.int.injEq))))))))))))))))))))))))))))))))))))))))))))))))))))))))))))))))))))))))))))
end Lq
end
section
set_option Elab.async false
set_option linter.all false
set_option maxRecDepth 10000
set_option exponentiation.threshold 20000
namespace Lq
open PySem PySem.Spec PyProof.Rows L2
open Sx (at0 clr comb short LT)
theorem oIxT_nat {xs : List PV} {j : Nat} {x : PV} (st : Store) (h : xs[j]? = some x) : oIx (.tup xs) (.int (j : Int)) st = some x := by
  simp only [oIx, asS]; exact atI_nat h
def numsOf (Y : LT) (many m : Nat) : List Int := (List.range m).map fun h => at0 Y.costs (many + m) - at0 Y.costs (many + h)
def low (a b : Int) : Int × Int := (a / ((Nat.gcd a.natAbs b.natAbs : Nat) : Int), b / ((Nat.gcd a.natAbs b.natAbs : Nat) : Int))
end Lq
end
section
set_option Elab.async false
set_option linter.all false
set_option maxRecDepth 10000
set_option exponentiation.threshold 20000
namespace Lq
open PySem PySem.Spec PyProof.Rows L2
open Sx (at0 clr comb short LT sm si)
def rt (p : Int × Int) : Rat := (p.1 : Rat) / (p.2 : Rat)
end Lq
end
section
set_option Elab.async false
set_option linter.all false
set_option maxRecDepth 10000
set_option exponentiation.threshold 20000
namespace Lq
open PySem PySem.Spec PyProof.Rows L2
open Sx (at0 clr comb short LT sm si)
end Lq
end
section
set_option Elab.async false
set_option linter.all false
namespace Sx
theorem si_comm (f : Nat → Nat → Int) (n : Nat) : ∀ m : Nat, si m (fun i => si n (f i)) = si n (fun j => si m (fun i => f i j))
  | 0 => by simp only [si]; rw [si_zero (f := fun _ => 0) fun _ _ => rfl]
  | m + 1 => by
    simp only [si]
    rw [si_comm f n m, ← si_add]
theorem si_nonneg {f : Nat → Int} : ∀ {n : Nat}, (∀ j, j < n → 0 ≤ f j) → 0 ≤ si n f
  | 0, _ => Int.le_refl _
  | n + 1, h => by
    have a := si_nonneg (n := n) fun j hj => h j (by omega)
    have b := h n (by omega)
    rw [si]; omega
theorem si_pos {f : Nat → Int} : ∀ {n : Nat}, (∀ j, j < n → 0 ≤ f j) → ∀ k, k < n → 0 < f k → 0 < si n f
  | n + 1, h, k, hk, p => by
    rw [si]
    by_cases e : k = n
    · subst e
      have a := si_nonneg (n := k) fun j hj => h j (by omega)
      omega
    · have a := si_pos (n := n) (fun j hj => h j (by omega)) k (by omega) p
      have b := h n (by omega)
      omega
theorem si_neg (f : Nat → Int) (n : Nat) : si n (fun j => - f j) = - si n f := by
  have := si_mul (-1) f n
  rw [si_congr (g := fun j => -1 * f j) fun j _ => by omega, this]; omega
end Sx
namespace Lq
open Sx (si si_congr si_zero si_add si_mul si_comm si_nonneg si_pos si_neg)
inductive Sg where
  | gt | ge | eq
  deriving DecidableEq
structure Cp where
  one : List Nat
  sg : Sg
  other : List Nat
  deriving DecidableEq
instance : Inhabited Cp := ⟨⟨[], .eq, []⟩⟩
def inc (l : List Nat) (t : Nat) : Int := if t ∈ l then 1 else 0
def Cp.c (c : Cp) (t : Nat) : Int := inc c.one t - inc c.other t
def exc (told : List Cp) (v : Nat → Int) (t : Nat) : Int := si told.length (fun i => v i * (told.getD i default).c t)
end Lq
end
section
set_option Elab.async false
set_option linter.all false
namespace Lq
open Sx (si si_congr si_zero si_add si_mul si_comm si_nonneg si_pos si_neg at0 sm)
def val : List Cp → List Int → List Int × List Int
  | [], ws => ([], ws)
  | c :: r, ws => if c.sg = .eq then ((at0 ws 0 - at0 ws 1) :: (val r (ws.drop 2)).1, (val r (ws.drop 2)).2) else (at0 ws 0 :: (val r (ws.drop 1)).1, (val r (ws.drop 1)).2)
end Lq
end
section
set_option Elab.async false
set_option linter.all false
set_option maxRecDepth 10000
set_option exponentiation.threshold 20000
namespace Lq
open PySem PySem.Spec PyProof.Rows L2
open Sx (at0 clr comb short LT sm si)
def Sg.s : Sg → Str
  | .gt => ">"
  | .ge => ">="
  | .eq => "="
def lotV (l : List Nat) : PV := .tup (natsV l)
def cpV (c : Cp) : PV := .tup [lotV c.one, .str c.sg.s, lotV c.other]
def toldV (t : List Cp) : PV := .tup (t.map cpV)
end Lq
end
section
set_option Elab.async false
set_option linter.all false
set_option maxRecDepth 10000
set_option exponentiation.threshold 20000
namespace Lq
open PySem PySem.Spec PyProof.Rows L2
open Sx (at0 clr comb short LT sm si)
end Lq
end
section
set_option Elab.async false
set_option linter.all false
set_option maxRecDepth 10000
set_option exponentiation.threshold 20000
namespace Lq
open PySem PySem.Spec PyProof.Rows L2
open Sx (at0 clr comb short LT sm si)
theorem keeps_get {ex : List Nat} {st s : Store} (h : Keeps ex st s) {i : Nat} {c : Cell} (e : st[i]? = some c) (hn : i ∉ ex) : s[i]? = some c :=
  (h.2 i (List.getElem?_eq_some_iff.mp e).1 hn).trans e
theorem Keeps.sub {ex : List Nat} {st s0 s : Store} (h : Keeps ex s0 s) (h0 : Keeps [] st s0) (he : ∀ i, i ∈ ex → st.length ≤ i) : Keeps [] st s :=
  ⟨Nat.le_trans h0.1 h.1, fun i hi _ => (h.2 i (Nat.lt_of_lt_of_le hi h0.1) (fun m => by have := he i m; omega)).trans (h0.2 i hi (by simp))⟩
end Lq
end
section
set_option Elab.async false
set_option linter.all false
set_option maxRecDepth 10000
set_option exponentiation.threshold 20000
namespace Lq
open PySem PySem.Spec PyProof.Rows L2
open Sx (at0 clr comb short LT sm si)
end Lq
end
section
set_option Elab.async false
set_option linter.all false
set_option maxRecDepth 10000
set_option exponentiation.threshold 20000
namespace Lq
open PySem PySem.Spec PyProof.Rows L2
open Sx (at0 clr comb short LT sm si)
end Lq
end
section
set_option Elab.async false
set_option linter.all false
set_option maxRecDepth 10000
namespace Lq
open PySem PySem.Spec PyProof.Rows L2
open Sx (at0)
def Tn (ns : List Int) (n : Nat) (s : Store) : Prop := ∃ c, s[0]? = some (.lst c) ∧ Town ns n c
theorem Tn.mono {ns : List Int} {n m : Nat} {s : Store} (h : Tn ns n s) (l : n ≤ m) : Tn ns m s := by
  obtain ⟨c, a, x, ls, b, d, e, f⟩ := h
  exact ⟨c, a, x, ls, b, d, e, by omega⟩
theorem Tn.keeps {ns : List Int} {n : Nat} {s s' : Store} (h : Tn ns n s) (k : Keeps [] s s') : Tn ns n s' := by
  obtain ⟨c, a, t⟩ := h
  exact ⟨c, keeps_get k a (by simp), t⟩
theorem draw_sp {ns : List Int} {n : Nat} {s : Store} {lim : Int} (T : Tn ns n s) (hn : n < 900000) (hns : ns.length ≤ 63) (h0 : 0 < lim) (h1 : lim < 1000000) :
    Ok (drawF [.scr ns, .own 0, .int lim] s) fun v s' => ∃ d, v = .int d ∧ 0 ≤ d ∧ d < lim ∧ Tn ns (n + 1) s' ∧ Keeps [0] s s' := by
  obtain ⟨c, a, t⟩ := T
  obtain ⟨d, c', e, d0, d1, t'⟩ := draw_ok a t (by omega) hns h0 h1
  rw [e, ok_ok]
  exact ⟨d, rfl, d0, d1, ⟨c', by rw [st_set a, if_pos rfl], t'⟩, (Keeps.refl _ _).set (.inr (by simp)) _⟩
theorem atI_int {α : Type} {xs : List α} {d : Int} (h0 : 0 ≤ d) (h1 : d < xs.length) : ∃ x, x ∈ xs ∧ xs[d.toNat]? = some x ∧ atI xs d = some x := by
  obtain ⟨i, rfl⟩ : ∃ i : Nat, d = (i : Int) := ⟨d.toNat, by omega⟩
  have hi : i < xs.length := by omega
  exact ⟨xs[i], List.getElem_mem hi, by simp [hi], atI_nat (List.getElem?_eq_getElem hi)⟩
theorem pick_sp {ns : List Int} {n : Nat} {s : Store} {xs : List PV} (T : Tn ns n s) (hn : n < 900000) (hns : ns.length ≤ 63) (h0 : 0 < xs.length) (h1 : xs.length < 1000) :
    Ok (p__law_pick [.scr ns, .own 0, .lst xs] s) fun v s' => v ∈ xs ∧ Tn ns (n + 1) s' ∧ Keeps [0] s s' := by
  (unfold p__law_pick runF; rw [ok_retF]; simp only [env0, List.map_cons, List.map_nil, List.length_cons, List.length_nil, Nat.reduceAdd, Nat.reduceSub, List.reduceReplicate, List.cons_append, List.nil_append])
  simp only [wkA, List.set_cons_zero, List.set_cons_succ, Option.some.injEq, exists_eq_left', exists_eq_left, List.length_cons, List.length_nil, Nat.reduceAdd, Nat.reduceLeDiff, true_and, and_true, if_true, Bool.not_true, Bool.not_false, Bool.false_eq_true, if_false, decide_eq_true_eq, List.cons.injEq, ↓reduceIte]
  refine Op.of (z := .int (xs.length : Int)) (by simp [oLen, asS, asL]) ?_
  refine (draw_sp T hn hns (by omega) (by omega)).mono fun v s' h => ?_
  obtain ⟨d, rfl, d0, d1, T', K'⟩ := h
  obtain ⟨x, hx, _, e⟩ := atI_int d0 d1
  exact Op.of (z := x) (by simp only [oIx, asS, asL]; exact e) ⟨hx, T', K'⟩
theorem scale_sp {ns : List Int} {n k : Nat} {s : Store} (T : Tn ns n s) (hn : n < 800000) (hns : ns.length ≤ 63) (hk : k ≤ 10) :
    Ok (p__law_scale [.scr ns, .own 0, .int (k : Int)] s) fun v s' => ∃ ws : List Int, v = .tup (nI ws) ∧ ws.length = k ∧ (∀ w, w ∈ ws → 1 ≤ w ∧ w ≤ 9) ∧ Tn ns (n + 11) s' ∧ Keeps [0] s s' := by
  have sz := szl
  (unfold p__law_scale runF; rw [ok_retF]; simp only [env0, List.map_cons, List.map_nil, List.length_cons, List.length_nil, Nat.reduceAdd, Nat.reduceSub, List.reduceReplicate, List.cons_append, List.nil_append])
  simp only [wkA, List.set_cons_zero, List.set_cons_succ, Option.some.injEq, exists_eq_left', exists_eq_left, List.length_cons, List.length_nil, Nat.reduceAdd, Nat.reduceLeDiff, true_and, and_true, if_true, Bool.not_true, Bool.not_false, Bool.false_eq_true, if_false, decide_eq_true_eq, List.cons.injEq, ↓reduceIte]
  refine (pick_sp T (by omega) hns (by simp) (by simp)).mono fun v s1 h => ?_
  obtain ⟨hv, T1, K1⟩ := h
  obtain ⟨m, rfl, m0, m9⟩ : ∃ m : Int, v = .int m ∧ 2 ≤ m ∧ m ≤ 9 := by
    simp only [List.mem_cons, List.not_mem_nil, or_false] at hv
    rcases hv with rfl | rfl | rfl
    · exact ⟨2, rfl, by decide, by decide⟩
    · exact ⟨4, rfl, by decide, by decide⟩
    · exact ⟨9, rfl, by decide, by decide⟩
  rw [nxK_nx]
  simp only [wkA, List.set_cons_zero, List.set_cons_succ, Option.some.injEq, exists_eq_left', exists_eq_left, List.length_cons, List.length_nil, Nat.reduceAdd, Nat.reduceLeDiff, true_and, and_true, if_true, Bool.not_true, Bool.not_false, Bool.false_eq_true, if_false, decide_eq_true_eq, List.cons.injEq, ↓reduceIte]
  refine ⟨⟨by unfold okR; simp; omega, by simp; omega⟩, ?_⟩
  have rn : (k : Int).toNat = k := by simp
  rw [rn]
  refine ok_compV (fun i pre s' => ∃ ws : List Int, pre = nI ws ∧ ws.length = i ∧ (∀ w, w ∈ ws → 1 ≤ w ∧ w ≤ 9) ∧ Tn ns (n + 1 + i) s' ∧ Keeps [0] s s') _ 0 [] _ ?_ ⟨[], rfl, rfl, by simp, T1, K1⟩ ?_
  · rintro i x hx pre s' ⟨ws, rfl, wl, wb, T', K'⟩
    obtain ⟨hi, rfl⟩ := rng_at hx
    simp only [wipeE]
    simp only [wkA, List.set_cons_zero, List.set_cons_succ, Option.some.injEq, exists_eq_left', exists_eq_left, List.length_cons, List.length_nil, Nat.reduceAdd, Nat.reduceLeDiff, true_and, and_true, if_true, Bool.not_true, Bool.not_false, Bool.false_eq_true, if_false, decide_eq_true_eq, List.cons.injEq, ↓reduceIte]
    rw [Nat.zero_add] at wl T' ⊢
    refine (draw_sp T' (by omega) hns (by omega) (by omega)).mono fun v s2 h => ?_
    obtain ⟨d, rfl, d0, d1, T2, K2⟩ := h
    simp only [wkA, List.set_cons_zero, List.set_cons_succ, Option.some.injEq, exists_eq_left', exists_eq_left, List.length_cons, List.length_nil, Nat.reduceAdd, Nat.reduceLeDiff, true_and, and_true, if_true, Bool.not_true, Bool.not_false, Bool.false_eq_true, if_false, decide_eq_true_eq, List.cons.injEq, ↓reduceIte]
    refine ⟨ws ++ [1 + d], by simp, by simp [wl], fun w hw => ?_, T2.mono (by omega), K'.trans K2⟩
    rcases List.mem_append.mp hw with hw | hw
    · exact wb w hw
    · simp at hw; omega
  · rintro all s' ⟨ws, e, wl, wb, T', K'⟩
    rw [List.nil_append] at e
    subst e
    rw [Nat.zero_add, rng_len] at wl T'
    exact Op.of (z := .tup (nI ws)) rfl ⟨ws, rfl, wl, wb, T'.mono (by omega), K'⟩
def Lot (k : Nat) (l : List Nat) : Prop := l.Pairwise (· < ·) ∧ ∀ x, x ∈ l → x < k
instance (k : Nat) (l : List Nat) : Decidable (Lot k l) := by unfold Lot; exact inferInstance
structure ValidC (k : Nat) (c : Cp) : Prop where
  one : Lot k c.one
  other : Lot k c.other
def Valid (k : Nat) (told : List Cp) : Prop := ∀ c, c ∈ told → ValidC k c
def lotsL : Nat → List (List Nat)
  | 1 => [[], [0]]
  | 2 => [[], [0], [0, 1], [1]]
  | 3 => [[], [0], [0, 1], [0, 1, 2], [0, 2], [1], [1, 2], [2]]
  | 4 => [[], [0], [0, 1], [0, 1, 2], [0, 1, 2, 3], [0, 1, 3], [0, 2], [0, 2, 3], [0, 3], [1], [1, 2], [1, 2, 3], [1, 3], [2], [2, 3], [3]]
  | 5 => [[], [0], [0, 1], [0, 1, 2], [0, 1, 2, 3], [0, 1, 2, 3, 4], [0, 1, 2, 4], [0, 1, 3], [0, 1, 3, 4], [0, 1, 4], [0, 2], [0, 2, 3], [0, 2, 3, 4], [0, 2, 4], [0, 3], [0, 3, 4], [0, 4], [1], [1, 2], [1, 2, 3], [1, 2, 3, 4], [1, 2, 4], [1, 3], [1, 3, 4], [1, 4], [2], [2, 3], [2, 3, 4], [2, 4], [3], [3, 4], [4]]
  | _ => []
theorem five {k : Nat} (h1 : 1 ≤ k) (h5 : k ≤ 5) : k = 1 ∨ k = 2 ∨ k = 3 ∨ k = 4 ∨ k = 5 := by omega
theorem lots_sp {k : Nat} (h1 : 1 ≤ k) (h5 : k ≤ 5) (st : Store) : p__law_lots [.int (k : Int)] st = .ok (.lst ((lotsL k).map lotV)) st := by
  rcases five h1 h5 with rfl | rfl | rfl | rfl | rfl <;> kernel_rfl
theorem lots_lot {k : Nat} (h1 : 1 ≤ k) (h5 : k ≤ 5) : ∀ l, l ∈ lotsL k → Lot k l := by
  rcases five h1 h5 with rfl | rfl | rfl | rfl | rfl <;> decide
theorem lots_len {k : Nat} (h1 : 1 ≤ k) (h5 : k ≤ 5) : 0 < (lotsL k).length ∧ (lotsL k).length ≤ 32 := by
  rcases five h1 h5 with rfl | rfl | rfl | rfl | rfl <;> decide
def lw (ws : List Int) (l : List Nat) : Int := (l.map (at0 ws)).sum
theorem asInts_nI : ∀ ns : List Int, asInts (nI ns) = some ns
  | [] => rfl
  | n :: ns => by
    show asInts (PV.int n :: nI ns) = _
    simp only [asInts, asInts_nI ns]; rfl
theorem weight_sp {ws : List Int} {l : List Nat} (h : ∀ x, x ∈ l → x < ws.length) (st : Store) : p__law_weight [.tup (nI ws), lotV l] st = .ok (.int (lw ws l)) st := by
  have : Ok (p__law_weight [.tup (nI ws), lotV l] st) fun v s => v = .int (lw ws l) ∧ s = st := by
    (unfold p__law_weight runF; rw [ok_retF]; simp only [env0, List.map_cons, List.map_nil, List.length_cons, List.length_nil, Nat.reduceAdd, Nat.reduceSub, List.reduceReplicate, List.cons_append, List.nil_append])
    simp only [wkA, List.set_cons_zero, List.set_cons_succ, Option.some.injEq, exists_eq_left', exists_eq_left, List.length_cons, List.length_nil, Nat.reduceAdd, Nat.reduceLeDiff, true_and, and_true, if_true, Bool.not_true, Bool.not_false, Bool.false_eq_true, if_false, decide_eq_true_eq, List.cons.injEq, ↓reduceIte]
    refine ⟨natsV l, rfl, ?_⟩
    refine ok_map (fun x => match x with | .int j => .int (at0 ws j.toNat) | x => x) (fun x hx => ?_) ?_
    · obtain ⟨t, ht, rfl⟩ := List.mem_map.mp hx
      simp only [wipeE]
      simp only [wkA, List.set_cons_zero, List.set_cons_succ, Option.some.injEq, exists_eq_left', exists_eq_left, List.length_cons, List.length_nil, Nat.reduceAdd, Nat.reduceLeDiff, true_and, and_true, if_true, Bool.not_true, Bool.not_false, Bool.false_eq_true, if_false, decide_eq_true_eq, List.cons.injEq, ↓reduceIte]
      refine Op.of (z := .int (at0 ws t)) ?_ (by simp)
      have := h t ht
      exact oIxT_nat st (by rw [List.getElem?_map, List.getElem?_eq_getElem this]; simp [at0, this])
    · have e : (natsV l).map (fun x => match x with | .int j => .int (at0 ws j.toNat) | x => x) = nI (l.map (at0 ws)) := by
        show List.map _ (List.map _ _) = List.map _ (List.map _ _)
        rw [List.map_map, List.map_map]; rfl
      rw [e]
      refine Op.of (z := .int (lw ws l)) (by simp only [oSum, asL]; rw [asInts_nI]; rfl) ⟨rfl, rfl⟩
  obtain ⟨v, s, e, rfl, rfl⟩ := this
  exact e
theorem sg_ne_gt (g : Sg) (s : Store) : oNe (.str g.s) (.str ">") s = some (.bl (!decide (g = .gt))) := by cases g <;> kernel_rfl
theorem sg_ne_eq (g : Sg) (s : Store) : oNe (.str g.s) (.str "=") s = some (.bl (!decide (g = .eq))) := by cases g <;> kernel_rfl
theorem comparison_sp {ns : List Int} {n k : Nat} {s : Store} {ws : List Int} (T : Tn ns n s) (hn : n < 800000) (hns : ns.length ≤ 63) (h1 : 1 ≤ k) (h5 : k ≤ 5) (wl : ws.length = k) :
    Ok (p__law_comparison [.scr ns, .own 0, .int (k : Int), .tup (nI ws)] s) fun v s' => ∃ c, v = cpV c ∧ ValidC k c ∧ Tn ns (n + 4) s' ∧ Keeps [0] s s' := by
  have ll := lots_len h1 h5
  (unfold p__law_comparison runF; rw [ok_retF]; simp only [env0, List.map_cons, List.map_nil, List.length_cons, List.length_nil, Nat.reduceAdd, Nat.reduceSub, List.reduceReplicate, List.cons_append, List.nil_append])
  simp only [wkA, List.set_cons_zero, List.set_cons_succ, Option.some.injEq, exists_eq_left', exists_eq_left, List.length_cons, List.length_nil, Nat.reduceAdd, Nat.reduceLeDiff, true_and, and_true, if_true, Bool.not_true, Bool.not_false, Bool.false_eq_true, if_false, decide_eq_true_eq, List.cons.injEq, ↓reduceIte]
  rw [Ok.eq (lots_sp h1 h5 s)]
  rw [nxK_nx]
  simp only [wkA, List.set_cons_zero, List.set_cons_succ, Option.some.injEq, exists_eq_left', exists_eq_left, List.length_cons, List.length_nil, Nat.reduceAdd, Nat.reduceLeDiff, true_and, and_true, if_true, Bool.not_true, Bool.not_false, Bool.false_eq_true, if_false, decide_eq_true_eq, List.cons.injEq, ↓reduceIte]
  refine (pick_sp T (by omega) hns (by simp; omega) (by simp; omega)).mono fun v1 s1 h => ?_
  obtain ⟨hv1, T1, K1⟩ := h
  refine (pick_sp T1 (by omega) hns (by simp; omega) (by simp; omega)).mono fun v2 s2 h => ?_
  obtain ⟨hv2, T2, K2⟩ := h
  obtain ⟨a, ha, rfl⟩ := List.mem_map.mp hv1
  obtain ⟨b, hb, rfl⟩ := List.mem_map.mp hv2
  have la := lots_lot h1 h5 a ha
  have lb := lots_lot h1 h5 b hb
  rw [nxK_nx]
  simp only [wkA, List.set_cons_zero, List.set_cons_succ, Option.some.injEq, exists_eq_left', exists_eq_left, List.length_cons, List.length_nil, Nat.reduceAdd, Nat.reduceLeDiff, true_and, and_true, if_true, Bool.not_true, Bool.not_false, Bool.false_eq_true, if_false, decide_eq_true_eq, List.cons.injEq, ↓reduceIte]
  refine (pick_sp T2 (by omega) hns (by simp) (by simp)).mono fun v3 s3 h => ?_
  obtain ⟨hv3, T3, K3⟩ := h
  obtain ⟨g, rfl⟩ : ∃ g : Sg, v3 = .str g.s := by
    simp only [List.mem_cons, List.not_mem_nil, or_false] at hv3
    rcases hv3 with rfl | rfl | rfl | rfl
    · exact ⟨.gt, rfl⟩
    · exact ⟨.gt, rfl⟩
    · exact ⟨.ge, rfl⟩
    · exact ⟨.eq, rfl⟩
  rw [nxK_nx]
  simp only [wkA, List.set_cons_zero, List.set_cons_succ, Option.some.injEq, exists_eq_left', exists_eq_left, List.length_cons, List.length_nil, Nat.reduceAdd, Nat.reduceLeDiff, true_and, and_true, if_true, Bool.not_true, Bool.not_false, Bool.false_eq_true, if_false, decide_eq_true_eq, List.cons.injEq, ↓reduceIte]
  refine (draw_sp T3 (by omega) hns (by omega) (by omega)).mono fun v4 s4 h => ?_
  obtain ⟨d, rfl, d0, d1, T4, K4⟩ := h
  have KK := ((K1.trans K2).trans K3).trans K4
  simp only [wkA, List.set_cons_zero, List.set_cons_succ, Option.some.injEq, exists_eq_left', exists_eq_left, List.length_cons, List.length_nil, Nat.reduceAdd, Nat.reduceLeDiff, true_and, and_true, if_true, Bool.not_true, Bool.not_false, Bool.false_eq_true, if_false, decide_eq_true_eq, List.cons.injEq, ↓reduceIte]
  split
  · rw [Ok.eq (weight_sp (fun x hx => by rw [wl]; exact la.2 x hx) s4), Ok.eq (weight_sp (fun x hx => by rw [wl]; exact lb.2 x hx) s4)]
    simp only [wkA, List.set_cons_zero, List.set_cons_succ, Option.some.injEq, exists_eq_left', exists_eq_left, List.length_cons, List.length_nil, Nat.reduceAdd, Nat.reduceLeDiff, true_and, and_true, if_true, Bool.not_true, Bool.not_false, Bool.false_eq_true, if_false, decide_eq_true_eq, List.cons.injEq, ↓reduceIte]
    rw [nxK_nx]
    simp only [wkA, List.set_cons_zero, List.set_cons_succ, Option.some.injEq, exists_eq_left', exists_eq_left, List.length_cons, List.length_nil, Nat.reduceAdd, Nat.reduceLeDiff, true_and, and_true, if_true, Bool.not_true, Bool.not_false, Bool.false_eq_true, if_false, decide_eq_true_eq, List.cons.injEq, ↓reduceIte]
    have fin : ∀ (x y : List Nat), Lot k x → Lot k y → Ok ((eIf (tOrF (tAndF (tE (eBin oEq (eVar 8) (eC (PV.int 0)))) (tE (eBin oNe (eVar 7) (eC (PV.str ">"))))) (tAndF (tE (eBin oNe (eVar 8) (eC (PV.int 0)))) (tE (eBin oNe (eVar 7) (eC (PV.str "=")))))) (eVar 7) (eC (PV.str ">="))) [some (.scr ns), some (.own 0), some (.int (k : Int)), some (.tup (nI ws)), some (.lst ((lotsL k).map lotV)), some (lotV x), some (lotV y), some (.str g.s), some (.int (lw ws a - lw ws b))] s4) fun v s => (∃ g' : Sg, v = .str g'.s) ∧ s = s4 := fun x y lx ly => by
      simp only [wkA, List.set_cons_zero, List.set_cons_succ, Option.some.injEq, exists_eq_left', exists_eq_left, List.length_cons, List.length_nil, Nat.reduceAdd, Nat.reduceLeDiff, true_and, and_true, if_true, Bool.not_true, Bool.not_false, Bool.false_eq_true, if_false, decide_eq_true_eq, List.cons.injEq, ↓reduceIte]
      by_cases z : lw ws a - lw ws b = 0
      · simp only [z, BEq.rfl, if_true]
        refine Op.of (sg_ne_gt g s4) ?_
        cases g <;> simp <;> first | exact ⟨.gt, rfl⟩ | exact ⟨.ge, rfl⟩ | exact ⟨.eq, rfl⟩
      · have z' : (lw ws a - lw ws b == 0) = false := by simpa using z
        simp only [z', Bool.not_false, if_true, Bool.false_eq_true, if_false]
        refine Op.of (sg_ne_eq g s4) ?_
        cases g <;> simp <;> first | exact ⟨.gt, rfl⟩ | exact ⟨.ge, rfl⟩ | exact ⟨.eq, rfl⟩
    split
    · rw [nxK_nx]
      rw [ok_set]
      refine (fin a b la lb).mono fun v s5 h => ?_
      obtain ⟨⟨g', rfl⟩, rfl⟩ := h
      rw [nxK_nx]
      simp only [wkA, List.set_cons_zero, List.set_cons_succ, Option.some.injEq, exists_eq_left', exists_eq_left, List.length_cons, List.length_nil, Nat.reduceAdd, Nat.reduceLeDiff, true_and, and_true, if_true, Bool.not_true, Bool.not_false, Bool.false_eq_true, if_false, decide_eq_true_eq, List.cons.injEq, ↓reduceIte]
      exact ⟨⟨a, g', b⟩, rfl, ⟨la, lb⟩, T4, KK⟩
    · rw [nxK_nx]
      rw [ok_set]
      refine (fin b a lb la).mono fun v s5 h => ?_
      obtain ⟨⟨g', rfl⟩, rfl⟩ := h
      rw [nxK_nx]
      simp only [wkA, List.set_cons_zero, List.set_cons_succ, Option.some.injEq, exists_eq_left', exists_eq_left, List.length_cons, List.length_nil, Nat.reduceAdd, Nat.reduceLeDiff, true_and, and_true, if_true, Bool.not_true, Bool.not_false, Bool.false_eq_true, if_false, decide_eq_true_eq, List.cons.injEq, ↓reduceIte]
      exact ⟨⟨b, g', a⟩, rfl, ⟨lb, la⟩, T4, KK⟩
  · rw [nxK_nx]
    simp only [wkA, List.set_cons_zero, List.set_cons_succ, Option.some.injEq, exists_eq_left', exists_eq_left, List.length_cons, List.length_nil, Nat.reduceAdd, Nat.reduceLeDiff, true_and, and_true, if_true, Bool.not_true, Bool.not_false, Bool.false_eq_true, if_false, decide_eq_true_eq, List.cons.injEq, ↓reduceIte]
    exact ⟨⟨a, g, b⟩, rfl, ⟨la, lb⟩, T4, KK⟩
theorem told_sp {ns : List Int} {n k : Nat} {s : Store} {most : Nat} (T : Tn ns n s) (hn : n < 700000) (hns : ns.length ≤ 63) (h1 : 1 ≤ k) (h5 : k ≤ 5) (hm : most ≤ 8) :
    Ok (p__law_told [.scr ns, .own 0, .int (k : Int), .int (most : Int)] s) fun v s' => ∃ told, v = toldV told ∧ told.length ≤ most ∧ Valid k told ∧ Tn ns (n + 60) s' ∧ Keeps [0] s s' := by
  have sz := szl
  (unfold p__law_told runF; rw [ok_retF]; simp only [env0, List.map_cons, List.map_nil, List.length_cons, List.length_nil, Nat.reduceAdd, Nat.reduceSub, List.reduceReplicate, List.cons_append, List.nil_append])
  simp only [wkA, List.set_cons_zero, List.set_cons_succ, Option.some.injEq, exists_eq_left', exists_eq_left, List.length_cons, List.length_nil, Nat.reduceAdd, Nat.reduceLeDiff, true_and, and_true, if_true, Bool.not_true, Bool.not_false, Bool.false_eq_true, if_false, decide_eq_true_eq, List.cons.injEq, ↓reduceIte]
  refine (scale_sp T (by omega) hns (by omega)).mono fun v s1 h => ?_
  obtain ⟨ws, rfl, wl, wb, T1, K1⟩ := h
  rw [nxK_nx]
  simp only [wkA, List.set_cons_zero, List.set_cons_succ, Option.some.injEq, exists_eq_left', exists_eq_left, List.length_cons, List.length_nil, Nat.reduceAdd, Nat.reduceLeDiff, true_and, and_true, if_true, Bool.not_true, Bool.not_false, Bool.false_eq_true, if_false, decide_eq_true_eq, List.cons.injEq, ↓reduceIte]
  refine (draw_sp T1 (by omega) hns (by omega) (by omega)).mono fun v s2 h => ?_
  obtain ⟨d, rfl, d0, d1, T2, K2⟩ := h
  simp only [wkA, List.set_cons_zero, List.set_cons_succ, Option.some.injEq, exists_eq_left', exists_eq_left, List.length_cons, List.length_nil, Nat.reduceAdd, Nat.reduceLeDiff, true_and, and_true, if_true, Bool.not_true, Bool.not_false, Bool.false_eq_true, if_false, decide_eq_true_eq, List.cons.injEq, ↓reduceIte]
  refine ⟨⟨by unfold okR; simp; omega, by omega⟩, ?_⟩
  refine ok_compV (fun i pre s' => ∃ told, pre = told.map cpV ∧ told.length = i ∧ Valid k told ∧ Tn ns (n + 12 + 4 * i) s' ∧ Keeps [0] s s') _ 0 [] _ ?_ ⟨[], rfl, rfl, fun c h => by simp at h, T2.mono (by omega), K1.trans K2⟩ ?_
  · rintro i x hx pre s' ⟨told, rfl, tl, tv, T', K'⟩
    obtain ⟨hi, rfl⟩ := rng_at hx
    simp only [wipeE]
    simp only [wkA, List.set_cons_zero, List.set_cons_succ, Option.some.injEq, exists_eq_left', exists_eq_left, List.length_cons, List.length_nil, Nat.reduceAdd, Nat.reduceLeDiff, true_and, and_true, if_true, Bool.not_true, Bool.not_false, Bool.false_eq_true, if_false, decide_eq_true_eq, List.cons.injEq, ↓reduceIte]
    rw [Nat.zero_add] at tl T' ⊢
    refine (comparison_sp T' (by omega) hns h1 h5 wl).mono fun v s3 h => ?_
    obtain ⟨c, rfl, vc, T3, K3⟩ := h
    refine ⟨told ++ [c], by simp, by simp [tl], fun c' h' => ?_, T3.mono (by omega), K'.trans K3⟩
    rcases List.mem_append.mp h' with h' | h'
    · exact tv c' h'
    · simp at h'; rw [h']; exact vc
  · rintro all s' ⟨told, e, tl, tv, T', K'⟩
    rw [List.nil_append] at e
    subst e
    rw [Nat.zero_add, rng_len] at tl T'
    exact Op.of (z := toldV told) rfl ⟨told, rfl, by omega, tv, T'.mono (by omega), K'⟩
end Lq
end
section
set_option Elab.async false
set_option linter.all false
set_option maxRecDepth 10000
namespace Lq
open PySem PySem.Spec PyProof.Rows L2
open Sx (at0 si)
theorem eqOk {r : R PV} {x : PV} {st : Store} (h : Ok r fun v s => v = x ∧ s = st) : r = .ok x st := by
  obtain ⟨v, s, e, rfl, rfl⟩ := h
  exact e
theorem between_sp (v lo hi : Int) (st : Store) : p_is_between [.int v, .int lo, .int hi] st = .ok (.bl (decide (lo ≤ v) && decide (v ≤ hi))) st := by
  apply eqOk
  (unfold p_is_between runF; rw [ok_retF]; simp only [env0, List.map_cons, List.map_nil, List.length_cons, List.length_nil, Nat.reduceAdd, Nat.reduceSub, List.reduceReplicate, List.cons_append, List.nil_append])
  simp only [wkA, List.set_cons_zero, List.set_cons_succ, Option.some.injEq, exists_eq_left', exists_eq_left, List.length_cons, List.length_nil, Nat.reduceAdd, Nat.reduceLeDiff, true_and, and_true, if_true, Bool.not_true, Bool.not_false, Bool.false_eq_true, if_false, decide_eq_true_eq, List.cons.injEq, ↓reduceIte]
  refine ⟨.int, rfl, ?_⟩
  have e1 : Kd.isa .int .int = true := rfl
  have e2 : Kd.isa .int .bl = false := rfl
  simp only [e1, if_true]
  refine ⟨.int, rfl, ?_⟩
  simp only [e2, Bool.not_false, if_true]
  refine Op.of (z := .bl (decide (lo ≤ v))) rfl ?_
  by_cases c : lo ≤ v
  · simp only [c, decide_true, if_true]
    exact Op.of (z := .bl (decide (v ≤ hi))) rfl (by simp)
  · simp [c]
theorem bools_all : ∀ bs : List Bool, asBools (bs.map PV.bl) = some bs
  | [] => rfl
  | b :: bs => by
    show asBools (PV.bl b :: bs.map PV.bl) = _
    simp only [asBools, bools_all bs]; rfl
theorem oAll_true {xs : List PV} (st : Store) (h : ∀ x, x ∈ xs → x = .bl true) : oAll [.lst xs] st = some (.bl true) := by
  have : xs = (List.replicate xs.length true).map PV.bl := by
    rw [List.map_replicate]
    exact List.eq_replicate_iff.mpr ⟨rfl, h⟩
  rw [this]
  simp only [oAll, asL, bools_all]
  simp
theorem things_sp {k : Nat} (h1 : 1 ≤ k) (h5 : k ≤ 5) (st : Store) : p_check_things [.int (k : Int)] st = .ok .non st := by
  apply eqOk
  (unfold p_check_things runF; rw [ok_retF]; simp only [env0, List.map_cons, List.map_nil, List.length_cons, List.length_nil, Nat.reduceAdd, Nat.reduceSub, List.reduceReplicate, List.cons_append, List.nil_append])
  simp only [wkA, List.set_cons_zero, List.set_cons_succ, Option.some.injEq, exists_eq_left', exists_eq_left, List.length_cons, List.length_nil, Nat.reduceAdd, Nat.reduceLeDiff, true_and, and_true, if_true, Bool.not_true, Bool.not_false, Bool.false_eq_true, if_false, decide_eq_true_eq, List.cons.injEq, ↓reduceIte]
  rw [Ok.eq (between_sp _ _ _ st)]
  have : (decide ((1 : Int) ≤ (k : Int)) && decide ((k : Int) ≤ 5)) = true := by simp; omega
  simp [this]
theorem found_lot_sp {k : Nat} {l : List Nat} (h : Lot k l) (hl : l.length ≤ 1000) (st : Store) : p_is_found_lot [.int (k : Int), lotV l] st = .ok (.bl true) st := by
  have sz := szl
  apply eqOk
  (unfold p_is_found_lot runF; rw [ok_retF]; simp only [env0, List.map_cons, List.map_nil, List.length_cons, List.length_nil, Nat.reduceAdd, Nat.reduceSub, List.reduceReplicate, List.cons_append, List.nil_append])
  unfold lotV
  simp only [wkA, List.set_cons_zero, List.set_cons_succ, Option.some.injEq, exists_eq_left', exists_eq_left, List.length_cons, List.length_nil, Nat.reduceAdd, Nat.reduceLeDiff, true_and, and_true, if_true, Bool.not_true, Bool.not_false, Bool.false_eq_true, if_false, decide_eq_true_eq, List.cons.injEq, ↓reduceIte]
  refine ⟨.tup, rfl, ?_⟩
  have e1 : Kd.isa .tup .tup = true := rfl
  simp only [e1, Bool.not_true, Bool.false_eq_true, if_false]
  refine ⟨_, rfl, ?_⟩
  refine ok_map (fun _ => .bl true) (fun x hx => ?_) ?_
  · obtain ⟨t, ht, rfl⟩ := List.mem_map.mp hx
    simp only [wipeE]
    simp only [wkA, List.set_cons_zero, List.set_cons_succ, Option.some.injEq, exists_eq_left', exists_eq_left, List.length_cons, List.length_nil, Nat.reduceAdd, Nat.reduceLeDiff, true_and, and_true, if_true, Bool.not_true, Bool.not_false, Bool.false_eq_true, if_false, decide_eq_true_eq, List.cons.injEq, ↓reduceIte]
    rw [Ok.eq (between_sp _ _ _ st)]
    have := h.2 t ht
    simp
    omega
  · refine Op.of (oAll_true st fun x hx => ?_) ?_
    · obtain ⟨y, _, rfl⟩ := List.mem_map.mp hx; rfl
    · simp only [Bool.not_true, Bool.false_eq_true, if_false]
      rw [nxK_nx]
      simp only [wkA, List.set_cons_zero, List.set_cons_succ, Option.some.injEq, exists_eq_left', exists_eq_left, List.length_cons, List.length_nil, Nat.reduceAdd, Nat.reduceLeDiff, true_and, and_true, if_true, Bool.not_true, Bool.not_false, Bool.false_eq_true, if_false, decide_eq_true_eq, List.cons.injEq, ↓reduceIte]
      refine Op.of (z := .int (l.length : Int)) (by simp [oLen, asS]) ?_
      simp only [oSub_int, op_some]
      refine ⟨⟨by unfold okR; simp; omega, by omega⟩, ?_⟩
      refine ok_map (fun _ => .bl true) (fun x hx => ?_) ?_
      · obtain ⟨i, hi⟩ := List.mem_iff_getElem?.mp hx
        obtain ⟨hi, rfl⟩ := rng_at hi
        simp only [wipeE]
        simp only [wkA, List.set_cons_zero, List.set_cons_succ, Option.some.injEq, exists_eq_left', exists_eq_left, List.length_cons, List.length_nil, Nat.reduceAdd, Nat.reduceLeDiff, true_and, and_true, if_true, Bool.not_true, Bool.not_false, Bool.false_eq_true, if_false, decide_eq_true_eq, List.cons.injEq, ↓reduceIte]
        have i1 : i < l.length := by omega
        have i2 : i + 1 < l.length := by omega
        refine Op.of (oIxT_nat st (x := .int (l[i] : Int)) (by simp [i1])) ?_
        have e : (i : Int) + 1 = ((i + 1 : Nat) : Int) := by omega
        rw [e]
        refine Op.of (oIxT_nat st (x := .int (l[i + 1] : Int)) (by simp [i2])) ?_
        have := List.pairwise_iff_getElem.mp h.1 i (i + 1) i1 i2 (by omega)
        simp only [oLt_int, op_some, and_true]
        simp
        omega
      · refine Op.of (oAll_true st fun x hx => ?_) (by simp)
        obtain ⟨y, _, rfl⟩ := List.mem_map.mp hx; rfl
theorem lot_len {k : Nat} {l : List Nat} (h : Lot k l) : l.length ≤ k := by
  have key : ∀ (l : List Nat) (k : Nat), l.Pairwise (· < ·) → (∀ x, x ∈ l → x < k) → ∀ b, (∀ x, x ∈ l → b ≤ x) → b + l.length ≤ k ∨ l = [] := by
    intro l
    induction l with
    | nil => intro k _ _ b _; right; rfl
    | cons a r ih =>
      intro k p lt b hb
      left
      obtain ⟨p1, p2⟩ := List.pairwise_cons.mp p
      have ha := lt a (by simp)
      have hba := hb a (by simp)
      rcases ih k p2 (fun x hx => lt x (by simp [hx])) (a + 1) (fun x hx => p1 x hx) with h | h
      · simp; omega
      · rw [h]; simp; omega
  rcases key l k h.1 h.2 0 (fun _ _ => Nat.zero_le _) with h | h
  · omega
  · rw [h]; simp
theorem signs_in (g : Sg) (st : Store) : oNin (.str g.s) (.tup [.str ">", .str ">=", .str "="]) st = some (.bl false) := by cases g <;> kernel_rfl
theorem is_comp_sp {k : Nat} {c : Cp} (h5 : k ≤ 5) (h : ValidC k c) (st : Store) : p_is_comparison [.int (k : Int), cpV c] st = .ok (.bl true) st := by
  have l1 := lot_len h.one
  have l2 := lot_len h.other
  apply eqOk
  (unfold p_is_comparison runF; rw [ok_retF]; simp only [env0, List.map_cons, List.map_nil, List.length_cons, List.length_nil, Nat.reduceAdd, Nat.reduceSub, List.reduceReplicate, List.cons_append, List.nil_append])
  unfold cpV
  simp only [wkA, List.set_cons_zero, List.set_cons_succ, Option.some.injEq, exists_eq_left', exists_eq_left, List.length_cons, List.length_nil, Nat.reduceAdd, Nat.reduceLeDiff, true_and, and_true, if_true, Bool.not_true, Bool.not_false, Bool.false_eq_true, if_false, decide_eq_true_eq, List.cons.injEq, ↓reduceIte]
  refine ⟨.tup, rfl, ?_⟩
  have e1 : Kd.isa .tup .tup = true := rfl
  simp only [e1, Bool.not_true, Bool.false_eq_true, if_false]
  refine Op.of (z := .int 3) (by simp [oLen, asS]) ?_
  simp only [oNe_int, op_some]
  simp only [BEq.rfl, Bool.not_true, Bool.false_eq_true, if_false]
  have i1 : oIx (.tup [lotV c.one, .str c.sg.s, lotV c.other]) (.int 1) st = some (.str c.sg.s) := oIxT_nat st (j := 1) rfl
  have i0 : oIx (.tup [lotV c.one, .str c.sg.s, lotV c.other]) (.int 0) st = some (lotV c.one) := oIxT_nat st (j := 0) rfl
  have i2 : oIx (.tup [lotV c.one, .str c.sg.s, lotV c.other]) (.int 2) st = some (lotV c.other) := oIxT_nat st (j := 2) rfl
  refine Op.of i1 ⟨.str, rfl, ?_⟩
  have e2 : Kd.isa .str .str = true := rfl
  simp only [e2, Bool.not_true, Bool.false_eq_true, if_false]
  refine Op.of i1 (Op.of (signs_in _ _) ?_)
  simp only [Bool.false_eq_true, if_false]
  rw [nxK_nx]
  simp only [wkA, List.set_cons_zero, List.set_cons_succ, Option.some.injEq, exists_eq_left', exists_eq_left, List.length_cons, List.length_nil, Nat.reduceAdd, Nat.reduceLeDiff, true_and, and_true, if_true, Bool.not_true, Bool.not_false, Bool.false_eq_true, if_false, decide_eq_true_eq, List.cons.injEq, ↓reduceIte]
  refine Op.of i0 ?_
  rw [Ok.eq (found_lot_sp h.one (by omega) st)]
  simp only [if_true]
  refine Op.of i2 ?_
  rw [Ok.eq (found_lot_sp h.other (by omega) st)]
  simp
theorem are_told_sp {k : Nat} {told : List Cp} (h5 : k ≤ 5) (h : Valid k told) (hl : told.length ≤ 8) (st : Store) : p_are_told [.int (k : Int), toldV told] st = .ok (.bl true) st := by
  apply eqOk
  (unfold p_are_told runF; rw [ok_retF]; simp only [env0, List.map_cons, List.map_nil, List.length_cons, List.length_nil, Nat.reduceAdd, Nat.reduceSub, List.reduceReplicate, List.cons_append, List.nil_append])
  unfold toldV
  simp only [wkA, List.set_cons_zero, List.set_cons_succ, Option.some.injEq, exists_eq_left', exists_eq_left, List.length_cons, List.length_nil, Nat.reduceAdd, Nat.reduceLeDiff, true_and, and_true, if_true, Bool.not_true, Bool.not_false, Bool.false_eq_true, if_false, decide_eq_true_eq, List.cons.injEq, ↓reduceIte]
  refine ⟨.tup, rfl, ?_⟩
  have e1 : Kd.isa .tup .tup = true := rfl
  simp only [e1, if_true]
  refine Op.of (z := .int (told.length : Int)) (by simp [oLen, asS]) ?_
  refine Op.of (z := .bl true) (by simp [oLeI, oI]; omega) ?_
  simp only [if_true]
  refine ⟨_, rfl, ?_⟩
  refine ok_map (fun _ => .bl true) (fun x hx => ?_) ?_
  · obtain ⟨c, hc, rfl⟩ := List.mem_map.mp hx
    simp only [wipeE]
    simp only [wkA, List.set_cons_zero, List.set_cons_succ, Option.some.injEq, exists_eq_left', exists_eq_left, List.length_cons, List.length_nil, Nat.reduceAdd, Nat.reduceLeDiff, true_and, and_true, if_true, Bool.not_true, Bool.not_false, Bool.false_eq_true, if_false, decide_eq_true_eq, List.cons.injEq, ↓reduceIte]
    rw [Ok.eq (is_comp_sp h5 (h c hc) st)]
    simp
  · refine Op.of (oAll_true st fun x hx => ?_) (by simp)
    obtain ⟨y, _, rfl⟩ := List.mem_map.mp hx; rfl
theorem check_told_sp {k : Nat} {told : List Cp} (h1 : 1 ≤ k) (h5 : k ≤ 5) (h : Valid k told) (hl : told.length ≤ 8) (st : Store) : p_check_told [.int (k : Int), toldV told] st = .ok .non st := by
  apply eqOk
  (unfold p_check_told runF; rw [ok_retF]; simp only [env0, List.map_cons, List.map_nil, List.length_cons, List.length_nil, Nat.reduceAdd, Nat.reduceSub, List.reduceReplicate, List.cons_append, List.nil_append])
  simp only [wkA, List.set_cons_zero, List.set_cons_succ, Option.some.injEq, exists_eq_left', exists_eq_left, List.length_cons, List.length_nil, Nat.reduceAdd, Nat.reduceLeDiff, true_and, and_true, if_true, Bool.not_true, Bool.not_false, Bool.false_eq_true, if_false, decide_eq_true_eq, List.cons.injEq, ↓reduceIte]
  rw [Ok.eq (things_sp h1 h5 st)]
  rw [nxK_nx]
  simp only [wkA, List.set_cons_zero, List.set_cons_succ, Option.some.injEq, exists_eq_left', exists_eq_left, List.length_cons, List.length_nil, Nat.reduceAdd, Nat.reduceLeDiff, true_and, and_true, if_true, Bool.not_true, Bool.not_false, Bool.false_eq_true, if_false, decide_eq_true_eq, List.cons.injEq, ↓reduceIte]
  rw [Ok.eq (are_told_sp h5 h hl st)]
  simp
def part (i : Nat) : PV → PV
  | .tup xs => xs.getD i .non
  | _ => .non
end Lq
end
section
set_option Elab.async false
set_option linter.all false
set_option maxRecDepth 10000
namespace Lq
open PySem PySem.Spec PyProof.Rows L2
open Sx (at0 si)
theorem oAll_map {α : Type} (f : α → Bool) (xs : List α) (st : Store) : oAll [.lst (xs.map fun x => PV.bl (f x))] st = some (.bl (xs.all f)) := by
  have e : (xs.map fun x => PV.bl (f x)) = (xs.map f).map PV.bl := by rw [List.map_map]; rfl
  rw [e]
  simp only [oAll, asL, bools_all]
  simp [List.all_map]
end Lq
end
section
set_option Elab.async false
set_option linter.all false
set_option maxRecDepth 10000
namespace Lq
open PySem PySem.Spec PyProof.Rows L2
open Sx (at0 si)
def setsL (n : Nat) : Nat → List (List Nat)
  | 0 => [[]]
  | s + 1 => (setsL n s).flatMap fun row => ((List.range n).filter fun k => decide (row = []) || decide (row.getLastD 0 < k)).map fun k => row ++ [k]
theorem nine {n : Nat} (h : n ≤ 8) : n = 0 ∨ n = 1 ∨ n = 2 ∨ n = 3 ∨ n = 4 ∨ n = 5 ∨ n = 6 ∨ n = 7 ∨ n = 8 := by omega
theorem some_numbers_sp {n z : Nat} (hn : n ≤ 8) (hz : z ≤ 8) (st : Store) : p_some_numbers [.int (n : Int), .int (z : Int)] st = .ok (.lst ((setsL n z).map lotV)) st := by
  rcases nine hn with rfl | rfl | rfl | rfl | rfl | rfl | rfl | rfl | rfl <;> rcases nine hz with rfl | rfl | rfl | rfl | rfl | rfl | rfl | rfl | rfl <;> kernel_rfl
theorem law_sets_sp {n z : Nat} (hn : n ≤ 6) (hz : z ≤ 6) (st : Store) : p__law_sets [.int (n : Int), .int (z : Int)] st = .ok (.lst ((setsL n z).map lotV)) st := by
  have seven : ∀ {n : Nat}, n ≤ 6 → n = 0 ∨ n = 1 ∨ n = 2 ∨ n = 3 ∨ n = 4 ∨ n = 5 ∨ n = 6 := by intro n h; omega
  rcases seven hn with rfl | rfl | rfl | rfl | rfl | rfl | rfl <;> rcases seven hz with rfl | rfl | rfl | rfl | rfl | rfl | rfl <;> kernel_rfl
theorem sets_ok {n z : Nat} (hn : n ≤ 8) (hz : z ≤ 8) : ∀ l, l ∈ setsL n z → l.length = z ∧ Lot n l ∧ ∀ i, i < z → l.eraseIdx i ∈ setsL n (z - 1) := by
  rcases nine hn with rfl | rfl | rfl | rfl | rfl | rfl | rfl | rfl | rfl <;> rcases nine hz with rfl | rfl | rfl | rfl | rfl | rfl | rfl | rfl | rfl <;> decide +kernel
def sub (told : List Cp) (l : List Nat) : List Cp := l.map fun i => told.getD i default
theorem find_first {α : Type} {p : α → Bool} {A B : List α} {x : α} (hA : ∀ a, a ∈ A → p a = false) (hx : p x = true) : (A ++ x :: B).find? p = some x := by
  induction A with
  | nil => simp [hx]
  | cons a A ih =>
    rw [List.cons_append, List.find?_cons, hA a (by simp)]
    exact ih fun b hb => hA b (by simp [hb])
end Lq
end
section
set_option Elab.async false
set_option linter.all false
set_option maxRecDepth 10000
namespace Lq
open PySem PySem.Spec PyProof.Rows L2
open Sx (at0 si)
end Lq
end
section
set_option Elab.async false
set_option linter.all false
set_option maxRecDepth 10000
namespace Lq
open PySem PySem.Spec PyProof.Rows L2
open Sx (at0 si)
mutual
theorem peq_refl : ∀ p : PV, noScr p = true → peq p p = true
  | .non, _ => by simp [peq]
  | .bl _, _ => by simp [peq]
  | .int _, _ => by simp [peq]
  | .str _, _ => by simp [peq]
  | .tup xs, h => by rw [noScr] at h; rw [peq]; exact peqs_refl xs h
  | .lst xs, h => by rw [noScr] at h; rw [peq]; exact peqs_refl xs h
  | .scr _, h => by simp [noScr] at h
  | .own _, h => by simp [noScr] at h
  | .glo _, h => by simp [noScr] at h
theorem peqs_refl : ∀ ps : List PV, noScrs ps = true → peqs ps ps = true
  | [], _ => by simp [peqs]
  | x :: xs, h => by
    rw [noScrs, Bool.and_eq_true] at h
    rw [peqs, peq_refl x h.1, peqs_refl xs h.2]; rfl
end
structure Pl (p : PV) : Prop where
  ok : dChk p = true
  rs : ∀ s, rsv s p = p
theorem oNe_pl {x y : PV} (hx : Pl x) (hy : Pl y) (s : Store) : oNe x y s = some (.bl (!peq x y)) := by
  unfold oNe
  simp only [hx.rs, hy.rs, hx.ok, hy.ok, Bool.and_self, if_true]
theorem oEq_pl {x y : PV} (hx : Pl x) (hy : Pl y) (s : Store) : oEq x y s = some (.bl (peq x y)) := by
  unfold oEq
  simp only [hx.rs, hy.rs, hx.ok, hy.ok, Bool.and_self, if_true]
theorem Pl.scr {p : PV} (h : Pl p) : noScr p = true := by
  have := h.ok
  unfold dChk at this
  rw [Bool.and_eq_true] at this
  exact this.2
theorem oNe_self {x : PV} (hx : Pl x) (s : Store) : oNe x x s = some (.bl false) := by rw [oNe_pl hx hx, peq_refl x hx.scr]; rfl
theorem pl_bl (b : Bool) : Pl (.bl b) := ⟨rfl, fun _ => rfl⟩
theorem dOks_nats (m : Nat) : ∀ l : List Nat, dOks m (natsV l) = true
  | [] => by simp [dOks]
  | a :: l => by
    show dOks m (PV.int (a : Int) :: natsV l) = true
    rw [dOks, dOks_nats m l]; simp [dOk]
theorem noScrs_nats : ∀ l : List Nat, noScrs (natsV l) = true
  | [] => by simp [noScrs]
  | a :: l => by
    show noScrs (PV.int (a : Int) :: natsV l) = true
    rw [noScrs, noScrs_nats l]; rfl
theorem pl_lot (l : List Nat) : Pl (lotV l) := ⟨by unfold dChk lotV; rw [dOk, noScr, dOks_nats, noScrs_nats]; rfl, fun _ => rfl⟩
theorem dOk_lot (m : Nat) (l : List Nat) : dOk (m + 1) (lotV l) = true := by unfold lotV; rw [dOk, dOks_nats]
theorem noScr_lot (l : List Nat) : noScr (lotV l) = true := by unfold lotV; rw [noScr, noScrs_nats]
theorem dOk_cp (m : Nat) (c : Cp) : dOk (m + 2) (cpV c) = true := by
  unfold cpV
  rw [dOk, dOks, dOks, dOks, dOks, dOk_lot, dOk_lot]
  have : dOk (m + 1) (.str c.sg.s) = true := by cases c.sg <;> kernel_rfl
  rw [this]; rfl
theorem noScr_cp (c : Cp) : noScr (cpV c) = true := by
  unfold cpV
  rw [noScr, noScrs, noScrs, noScrs, noScrs, noScr_lot, noScr_lot]; rfl
theorem dOks_map {α : Type} (f : α → PV) (m : Nat) (h : ∀ x, dOk m (f x) = true) : ∀ xs : List α, dOks m (xs.map f) = true
  | [] => by simp [dOks]
  | x :: xs => by rw [List.map_cons, dOks, h x, dOks_map f m h xs]; rfl
theorem noScrs_map {α : Type} (f : α → PV) (h : ∀ x, noScr (f x) = true) : ∀ xs : List α, noScrs (xs.map f) = true
  | [] => by simp [noScrs]
  | x :: xs => by rw [List.map_cons, noScrs, h x, noScrs_map f h xs]; rfl
theorem add_tup (xs ys : List PV) (s : Store) (h : xs.length + ys.length ≤ 10000) : oAdd (.tup xs) (.tup ys) s = some (.tup (xs ++ ys)) := by
  have sz := szl
  have a : oAddI (.tup xs) (.tup ys) s = none := rfl
  have b : oAddT (.tup xs) (.tup ys) s = some (.tup (xs ++ ys)) := by simp only [oAddT]; rw [if_pos (by omega)]
  simp only [oAdd, oOr, a, b]
theorem add_told (a b : List Cp) (s : Store) (h : a.length + b.length ≤ 100) : oAdd (toldV a) (toldV b) s = some (toldV (a ++ b)) := by
  unfold toldV
  rw [add_tup _ _ _ (by simp; omega), List.map_append]
end Lq
end
section
set_option Elab.async false
set_option linter.all false
set_option maxRecDepth 10000
namespace Lq
open PySem PySem.Spec PyProof.Rows L2
open Sx (at0 si)
theorem ix0 (c : Cp) (s : Store) : oIx (cpV c) (.int 0) s = some (lotV c.one) := oIxT_nat s (j := 0) rfl
theorem ix2 (c : Cp) (s : Store) : oIx (cpV c) (.int 2) s = some (lotV c.other) := oIxT_nat s (j := 2) rfl
end Lq
end
section
set_option Elab.async false
set_option linter.all false
set_option maxRecDepth 10000
namespace Lq
open PySem PySem.Spec PyProof.Rows L2
open Sx (at0 si si_congr si_zero si_add si_mul)
theorem si_one (f : Nat → Int) (x : Nat) : ∀ k, x < k → si k (fun t => if t = x then f t else 0) = f x
  | k + 1, h => by
    rw [si]
    by_cases e : x = k
    · subst e
      rw [si_zero (fun t ht => by rw [if_neg (by omega)]), if_pos rfl]; omega
    · rw [si_one f x k (by omega), if_neg (by omega)]; omega
def holdB (ws : List Int) (c : Cp) : Bool := match c.sg with
  | .gt => decide (0 < lw ws c.one - lw ws c.other)
  | .ge => decide (0 ≤ lw ws c.one - lw ws c.other)
  | .eq => decide (lw ws c.one - lw ws c.other = 0)
def agB (ws : List Int) (told : List Cp) : Bool := told.all (holdB ws)
theorem fw_sp {ws : List Int} {l : List Nat} (h : ∀ x, x ∈ l → x < ws.length) (st : Store) : p_found_weight [.tup (nI ws), lotV l] st = .ok (.int (lw ws l)) st := weight_sp h st
theorem sg_eq_eq (g : Sg) (s : Store) : oEq (.str g.s) (.str "=") s = some (.bl (decide (g = .eq))) := by cases g <;> kernel_rfl
theorem does_hold_sp {ws : List Int} {c : Cp} (h : ValidC ws.length c) (st : Store) : p_does_hold [.tup (nI ws), cpV c] st = .ok (.bl (holdB ws c)) st := by
  apply eqOk
  (unfold p_does_hold runF; rw [ok_retF]; simp only [env0, List.map_cons, List.map_nil, List.length_cons, List.length_nil, Nat.reduceAdd, Nat.reduceSub, List.reduceReplicate, List.cons_append, List.nil_append])
  unfold cpV
  simp only [wkA, List.set_cons_zero, List.set_cons_succ, Option.some.injEq, exists_eq_left', exists_eq_left, List.length_cons, List.length_nil, Nat.reduceAdd, Nat.reduceLeDiff, true_and, and_true, if_true, Bool.not_true, Bool.not_false, Bool.false_eq_true, if_false, decide_eq_true_eq, List.cons.injEq, ↓reduceIte]
  rw [nxK_nx]
  simp only [wkA, List.set_cons_zero, List.set_cons_succ, Option.some.injEq, exists_eq_left', exists_eq_left, List.length_cons, List.length_nil, Nat.reduceAdd, Nat.reduceLeDiff, true_and, and_true, if_true, Bool.not_true, Bool.not_false, Bool.false_eq_true, if_false, decide_eq_true_eq, List.cons.injEq, ↓reduceIte]
  rw [Ok.eq (fw_sp h.one.2 st), Ok.eq (fw_sp h.other.2 st)]
  simp only [oSub_int, op_some]
  rw [nxK_nx]
  simp only [wkA, List.set_cons_zero, List.set_cons_succ, Option.some.injEq, exists_eq_left', exists_eq_left, List.length_cons, List.length_nil, Nat.reduceAdd, Nat.reduceLeDiff, true_and, and_true, if_true, Bool.not_true, Bool.not_false, Bool.false_eq_true, if_false, decide_eq_true_eq, List.cons.injEq, ↓reduceIte]
  refine Op.of (sg_ne_eq c.sg st) ?_
  unfold holdB
  generalize lw ws c.one - lw ws c.other = d
  cases c.sg with
  | eq =>
    have : (d == 0) = decide (d = 0) := rfl
    simp [this]
  | gt =>
    simp
    by_cases q : 0 < d
    · simp [q]; omega
    · simp [q]
      by_cases z : d = 0
      · simp [z]
        exact Op.of (z := .bl false) (by kernel_rfl) rfl
      · simp [z]
  | ge =>
    simp
    by_cases q : 0 < d
    · simp [q]; omega
    · simp [q]
      by_cases z : d = 0
      · simp [z]
        exact Op.of (z := .bl true) (by kernel_rfl) rfl
      · simp [z]; omega
theorem do_agree_sp {ws : List Int} {told : List Cp} (h : Valid ws.length told) (st : Store) : p_do_agree [toldV told, .tup (nI ws)] st = .ok (.bl (agB ws told)) st := by
  apply eqOk
  (unfold p_do_agree runF; rw [ok_retF]; simp only [env0, List.map_cons, List.map_nil, List.length_cons, List.length_nil, Nat.reduceAdd, Nat.reduceSub, List.reduceReplicate, List.cons_append, List.nil_append])
  simp only [wkA, List.set_cons_zero, List.set_cons_succ, Option.some.injEq, exists_eq_left', exists_eq_left, List.length_cons, List.length_nil, Nat.reduceAdd, Nat.reduceLeDiff, true_and, and_true, if_true, Bool.not_true, Bool.not_false, Bool.false_eq_true, if_false, decide_eq_true_eq, List.cons.injEq, ↓reduceIte]
  refine ⟨told.map cpV, rfl, ?_⟩
  refine ok_mapE cpV (fun c => .bl (holdB ws c)) (zs := told) (fun c hc => ?_) ?_
  · simp only [wipeE]
    simp only [wkA, List.set_cons_zero, List.set_cons_succ, Option.some.injEq, exists_eq_left', exists_eq_left, List.length_cons, List.length_nil, Nat.reduceAdd, Nat.reduceLeDiff, true_and, and_true, if_true, Bool.not_true, Bool.not_false, Bool.false_eq_true, if_false, decide_eq_true_eq, List.cons.injEq, ↓reduceIte]
    rw [Ok.eq (does_hold_sp (h c hc) st)]
    exact ⟨rfl, rfl⟩
  · exact Op.of (oAll_map _ _ _) ⟨rfl, rfl⟩
theorem law_holds_sp {ws : List Int} {c : Cp} (h : ValidC ws.length c) (st : Store) : p__law_holds [.tup (nI ws), cpV c] st = .ok (.bl (holdB ws c)) st := by
  apply eqOk
  (unfold p__law_holds runF; rw [ok_retF]; simp only [env0, List.map_cons, List.map_nil, List.length_cons, List.length_nil, Nat.reduceAdd, Nat.reduceSub, List.reduceReplicate, List.cons_append, List.nil_append])
  unfold cpV
  simp only [wkA, List.set_cons_zero, List.set_cons_succ, Option.some.injEq, exists_eq_left', exists_eq_left, List.length_cons, List.length_nil, Nat.reduceAdd, Nat.reduceLeDiff, true_and, and_true, if_true, Bool.not_true, Bool.not_false, Bool.false_eq_true, if_false, decide_eq_true_eq, List.cons.injEq, ↓reduceIte]
  rw [nxK_nx]
  simp only [wkA, List.set_cons_zero, List.set_cons_succ, Option.some.injEq, exists_eq_left', exists_eq_left, List.length_cons, List.length_nil, Nat.reduceAdd, Nat.reduceLeDiff, true_and, and_true, if_true, Bool.not_true, Bool.not_false, Bool.false_eq_true, if_false, decide_eq_true_eq, List.cons.injEq, ↓reduceIte]
  rw [Ok.eq (weight_sp h.one.2 st), Ok.eq (weight_sp h.other.2 st)]
  simp only [oSub_int, op_some]
  rw [nxK_nx]
  simp only [wkA, List.set_cons_zero, List.set_cons_succ, Option.some.injEq, exists_eq_left', exists_eq_left, List.length_cons, List.length_nil, Nat.reduceAdd, Nat.reduceLeDiff, true_and, and_true, if_true, Bool.not_true, Bool.not_false, Bool.false_eq_true, if_false, decide_eq_true_eq, List.cons.injEq, ↓reduceIte]
  refine Op.of (sg_eq_eq c.sg st) ?_
  unfold holdB
  generalize lw ws c.one - lw ws c.other = d
  cases c.sg with
  | eq =>
    have : (d == 0) = decide (d = 0) := rfl
    simp [this]
  | gt =>
    simp
    rw [nxK_nx]
    simp only [wkA, List.set_cons_zero, List.set_cons_succ, Option.some.injEq, exists_eq_left', exists_eq_left, List.length_cons, List.length_nil, Nat.reduceAdd, Nat.reduceLeDiff, true_and, and_true, if_true, Bool.not_true, Bool.not_false, Bool.false_eq_true, if_false, decide_eq_true_eq, List.cons.injEq, ↓reduceIte]
    by_cases q : 0 < d
    · simp [q]
    · simp [q]
      exact Op.of (z := .bl false) (by kernel_rfl) (by simp)
  | ge =>
    simp
    rw [nxK_nx]
    simp only [wkA, List.set_cons_zero, List.set_cons_succ, Option.some.injEq, exists_eq_left', exists_eq_left, List.length_cons, List.length_nil, Nat.reduceAdd, Nat.reduceLeDiff, true_and, and_true, if_true, Bool.not_true, Bool.not_false, Bool.false_eq_true, if_false, decide_eq_true_eq, List.cons.injEq, ↓reduceIte]
    by_cases q : 0 < d
    · simp [q]; omega
    · simp [q]
      refine Op.of (z := .bl true) (by kernel_rfl) ?_
      have : (d == 0) = decide (0 ≤ d) := by
        by_cases z : d = 0
        · simp [z]
        · have a : (d == 0) = false := by simpa using z
          have b : ¬ 0 ≤ d := by omega
          simp [a, b]
      simp [this]
theorem law_agree_sp {ws : List Int} {told : List Cp} (h : Valid ws.length told) (st : Store) : p__law_agree [toldV told, .tup (nI ws)] st = .ok (.bl (agB ws told)) st := by
  apply eqOk
  (unfold p__law_agree runF; rw [ok_retF]; simp only [env0, List.map_cons, List.map_nil, List.length_cons, List.length_nil, Nat.reduceAdd, Nat.reduceSub, List.reduceReplicate, List.cons_append, List.nil_append])
  simp only [wkA, List.set_cons_zero, List.set_cons_succ, Option.some.injEq, exists_eq_left', exists_eq_left, List.length_cons, List.length_nil, Nat.reduceAdd, Nat.reduceLeDiff, true_and, and_true, if_true, Bool.not_true, Bool.not_false, Bool.false_eq_true, if_false, decide_eq_true_eq, List.cons.injEq, ↓reduceIte]
  refine ⟨told.map cpV, rfl, ?_⟩
  refine ok_fmapE cpV (fun c => !holdB ws c) cpV (zs := told) (fun c hc => ?_) ?_
  · simp only [wipeE]
    simp only [wkA, List.set_cons_zero, List.set_cons_succ, Option.some.injEq, exists_eq_left', exists_eq_left, List.length_cons, List.length_nil, Nat.reduceAdd, Nat.reduceLeDiff, true_and, and_true, if_true, Bool.not_true, Bool.not_false, Bool.false_eq_true, if_false, decide_eq_true_eq, List.cons.injEq, ↓reduceIte]
    rw [Ok.eq (law_holds_sp (h c hc) st)]
    simp
  · refine Op.of (z := .bl (agB ws told)) ?_ ⟨rfl, rfl⟩
    have e : agB ws told = (told.filter fun c => !holdB ws c).isEmpty := by
      unfold agB
      cases q : told.all (holdB ws) with
      | true =>
        rw [List.all_eq_true] at q
        rw [List.filter_eq_nil_iff.mpr (fun c hc => by simp [q c hc])]; rfl
      | false =>
        rw [List.all_eq_false] at q
        obtain ⟨c, hc, hh⟩ := q
        have : c ∈ told.filter fun c => !holdB ws c := List.mem_filter.mpr ⟨hc, by simpa using hh⟩
        cases r : told.filter fun c => !holdB ws c with
        | nil => rw [r] at this; simp at this
        | cons a b => rfl
    rw [e]
    cases told.filter fun c => !holdB ws c with
    | nil => rfl
    | cons a b =>
      rw [oEq_pl ?_ ⟨rfl, fun _ => rfl⟩]
      · rfl
      · refine ⟨?_, fun _ => rfl⟩
        unfold dChk
        rw [dOk, noScr, dOks_map cpV 59 (fun x => dOk_cp 57 x), noScrs_map cpV noScr_cp]; rfl
end Lq
end
section
set_option Elab.async false
set_option linter.all false
set_option maxRecDepth 100000
namespace Lq
open PySem PySem.Spec PyProof.Rows L2
open Sx (at0 si)
def rowsL (m : Nat) : Nat → List (List Int)
  | 0 => [[]]
  | k + 1 => (rowsL m k).flatMap fun r => (List.range m).map fun (i : Nat) => r ++ [(i : Int) + 1]
theorem mem_rowsL {m : Nat} : ∀ {k : Nat} {w : List Int}, w ∈ rowsL m k ↔ w.length = k ∧ ∀ x, x ∈ w → 1 ≤ x ∧ x ≤ (m : Int)
  | 0, w => by
    rw [rowsL, List.mem_singleton]
    constructor
    · rintro rfl; simp
    · rintro ⟨h, _⟩; exact List.length_eq_zero_iff.mp h
  | k + 1, w => by
    rw [rowsL, List.mem_flatMap]
    constructor
    · rintro ⟨r, hr, hw⟩
      obtain ⟨i, hi, rfl⟩ := List.mem_map.mp hw
      obtain ⟨a, b⟩ := mem_rowsL.mp hr
      rw [List.mem_range] at hi
      refine ⟨by simp [a], fun x hx => ?_⟩
      rcases List.mem_append.mp hx with h | h
      · exact b x h
      · simp at h; omega
    · rintro ⟨hl, hx⟩
      have ne : w ≠ [] := fun e => by rw [e] at hl; simp at hl
      refine ⟨w.dropLast, mem_rowsL.mpr ⟨by simp [hl], fun x hx' => hx x (List.dropLast_subset w hx')⟩, List.mem_map.mpr ⟨(w.getLast ne - 1).toNat, ?_, ?_⟩⟩
      · have := hx _ (List.getLast_mem ne)
        rw [List.mem_range]; omega
      · have := hx _ (List.getLast_mem ne)
        have e : (((w.getLast ne - 1).toNat : Nat) : Int) + 1 = w.getLast ne := by omega
        rw [e, List.dropLast_concat_getLast]
def ltR : List Int → List Int → Bool
  | [], [] => false
  | [], _ :: _ => true
  | _ :: _, [] => false
  | x :: xs, y :: ys => if x = y then ltR xs ys else decide (x < y)
def insR (x : List Int) : List (List Int) → List (List Int)
  | [] => [x]
  | y :: r => if ltR (y.sum :: y) (x.sum :: x) = true then y :: insR x r else x :: y :: r
def srtR : List (List Int) → List (List Int)
  | [] => []
  | x :: xs => insR x (srtR xs)
theorem mem_insR {x y : List Int} : ∀ {l : List (List Int)}, y ∈ insR x l ↔ y = x ∨ y ∈ l
  | [] => by simp [insR]
  | z :: r => by
    rw [insR]
    split
    · rw [List.mem_cons, mem_insR, List.mem_cons]
      constructor
      · rintro (h | h | h) <;> simp [h]
      · rintro (h | h | h) <;> simp [h]
    · rw [List.mem_cons]
theorem mem_srtR {y : List Int} : ∀ {l : List (List Int)}, y ∈ srtR l ↔ y ∈ l
  | [] => by simp [srtR]
  | z :: r => by rw [srtR, mem_insR, mem_srtR, List.mem_cons]
def tI (w : List Int) : PV := .tup (nI w)
theorem four {k : Nat} (h1 : 1 ≤ k) (h4 : k ≤ 4) : k = 1 ∨ k = 2 ∨ k = 3 ∨ k = 4 := by omega
def sumR (r : List Int) : PV := .tup [.int r.sum, tI r]
theorem peqs_nI : ∀ a b : List Int, peqs (nI a) (nI b) = decide (a = b)
  | [], [] => rfl
  | [], _ :: _ => rfl
  | _ :: _, [] => rfl
  | x :: a, y :: b => by
    show (peq (.int x) (.int y) && peqs (nI a) (nI b)) = _
    rw [peqs_nI a b, peq]
    by_cases h : x = y
    · subst h; simp
    · simp [h]
theorem plts_nI : ∀ a b : List Int, plts (nI a) (nI b) = ltR a b
  | [], [] => rfl
  | [], _ :: _ => rfl
  | _ :: _, [] => rfl
  | x :: a, y :: b => by
    show (if peq (.int x) (.int y) = true then plts (nI a) (nI b) else plt (.int x) (.int y)) = _
    rw [plts_nI a b, peq, plt, ltR]
    by_cases h : x = y
    · simp [h]
    · simp [h]
theorem ltR_self : ∀ a : List Int, ltR a a = false
  | [] => rfl
  | x :: a => by rw [ltR, if_pos rfl, ltR_self a]
theorem plt_sumR (a b : List Int) : plt (sumR a) (sumR b) = ltR (a.sum :: a) (b.sum :: b) := by
  show (if peq (.int a.sum) (.int b.sum) = true then (if peqs (nI a) (nI b) = true then false else plts (nI a) (nI b)) else plt (.int a.sum) (.int b.sum)) = _
  rw [peqs_nI, plts_nI, peq, plt, ltR]
  by_cases h : a.sum = b.sum
  · by_cases g : a = b
    · subst g; simp [ltR_self]
    · simp [h, g]
  · simp [h]
theorem pins_map (x : List Int) : ∀ l : List (List Int), pins (sumR x) (l.map sumR) = (insR x l).map sumR
  | [] => rfl
  | y :: r => by
    rw [List.map_cons, pins, plt_sumR, insR, pins_map x r]
    split <;> rfl
theorem psort_map : ∀ l : List (List Int), psort (l.map sumR) = (srtR l).map sumR
  | [] => rfl
  | x :: r => by rw [List.map_cons, psort, psort_map r, pins_map, srtR]
theorem palks_nI : ∀ a b : List Int, palks (nI a) (nI b) = true
  | [], [] => rfl
  | [], _ :: _ => rfl
  | _ :: _, [] => rfl
  | x :: a, y :: b => by
    show (palk (.int x) (.int y) && palks (nI a) (nI b)) = true
    rw [palks_nI a b]; rfl
theorem palk_sumR (a b : List Int) : palk (sumR a) (sumR b) = true := by
  show (palk (.int a.sum) (.int b.sum) && (palks (nI a) (nI b) && palks [] [])) = true
  rw [palks_nI]; rfl
theorem srt_ok (l : List (List Int)) : srtOk (l.map sumR) = true := by
  unfold srtOk
  rw [Bool.and_eq_true]
  constructor
  · unfold palkA
    rw [List.all_eq_true]
    intro x hx
    obtain ⟨r, _, rfl⟩ := List.mem_map.mp hx
    have a : noScr (sumR r) = true := by
      unfold sumR tI
      rw [noScr, noScrs, noScrs, noScr, noScrs_ints]; rfl
    have b : dOk 50 (sumR r) = true := by
      unfold sumR tI
      rw [dOk, dOks, dOks, dOk, dOk, dOks_ints]; rfl
    rw [a, b, Bool.true_and, Bool.true_and, List.all_eq_true]
    intro y hy
    obtain ⟨q, _, rfl⟩ := List.mem_map.mp hy
    exact palk_sumR r q
  · unfold srtK
    have : (l.map sumR).all isTupC = true := by
      rw [List.all_eq_true]
      intro x hx
      obtain ⟨r, _, rfl⟩ := List.mem_map.mp hx
      rfl
    rw [this]; rfl
def swL : XS :=
    (sFor (iRange1 (aCons (eVar 0) aNil)) (gNm 3) (sSet 2 (eFz (fComp2 (iVal (eVar 2)) (gNm 4) (fun _ st => .ok true st) (iRange2 (aCons (eC (.int 1)) (aCons (eBin oAdd (eVar 1) (eC (.int 1))) aNil))) (gNm 5) (fun _ st => .ok true st) (eBin oAdd (eVar 4) (eTup (aCons (eVar 5) aNil))) [4, 5] [5]))))
theorem sw_eq : p_small_weights = runF 8 (sSeq (sSet 2 (eFz (fDisp (aCons (eTup aNil) aNil)))) (sSeq swL 
    (sRet (eFz (fComp (iVal (eFz (fSorted (eFz (fComp (iVal (eVar 2)) (gNm 4) (fun _ st => .ok true st) (eTup (aCons (eCB oSumA (aCons (eVar 4) aNil)) (aCons (eVar 4) aNil))) [4]))))) (gTp 2 (gsCons (gNm 6) (gsCons (gNm 7) gsNil))) (fun _ st => .ok true st) (eVar 7) [6, 7]))))) := rfl
theorem sw_1_1 (st : Store) : swL [some (.int 1), some (.int 1), some (.lst [.tup []]), none, none, none, none, none] st = .ok (.nx [some (.int 1), some (.int 1), some (.lst ((rowsL 1 1).map tI)), some (.int 0), none, none, none, none]) st := by kernel_rfl
theorem sw_1_2 (st : Store) : swL [some (.int 1), some (.int 2), some (.lst [.tup []]), none, none, none, none, none] st = .ok (.nx [some (.int 1), some (.int 2), some (.lst ((rowsL 2 1).map tI)), some (.int 0), none, none, none, none]) st := by kernel_rfl
theorem sw_1_3 (st : Store) : swL [some (.int 1), some (.int 3), some (.lst [.tup []]), none, none, none, none, none] st = .ok (.nx [some (.int 1), some (.int 3), some (.lst ((rowsL 3 1).map tI)), some (.int 0), none, none, none, none]) st := by kernel_rfl
theorem sw_1_4 (st : Store) : swL [some (.int 1), some (.int 4), some (.lst [.tup []]), none, none, none, none, none] st = .ok (.nx [some (.int 1), some (.int 4), some (.lst ((rowsL 4 1).map tI)), some (.int 0), none, none, none, none]) st := by kernel_rfl
theorem sw_2_1 (st : Store) : swL [some (.int 2), some (.int 1), some (.lst [.tup []]), none, none, none, none, none] st = .ok (.nx [some (.int 2), some (.int 1), some (.lst ((rowsL 1 2).map tI)), some (.int 1), none, none, none, none]) st := by kernel_rfl
theorem sw_2_2 (st : Store) : swL [some (.int 2), some (.int 2), some (.lst [.tup []]), none, none, none, none, none] st = .ok (.nx [some (.int 2), some (.int 2), some (.lst ((rowsL 2 2).map tI)), some (.int 1), none, none, none, none]) st := by kernel_rfl
theorem sw_2_3 (st : Store) : swL [some (.int 2), some (.int 3), some (.lst [.tup []]), none, none, none, none, none] st = .ok (.nx [some (.int 2), some (.int 3), some (.lst ((rowsL 3 2).map tI)), some (.int 1), none, none, none, none]) st := by kernel_rfl
theorem sw_2_4 (st : Store) : swL [some (.int 2), some (.int 4), some (.lst [.tup []]), none, none, none, none, none] st = .ok (.nx [some (.int 2), some (.int 4), some (.lst ((rowsL 4 2).map tI)), some (.int 1), none, none, none, none]) st := by kernel_rfl
theorem sw_3_1 (st : Store) : swL [some (.int 3), some (.int 1), some (.lst [.tup []]), none, none, none, none, none] st = .ok (.nx [some (.int 3), some (.int 1), some (.lst ((rowsL 1 3).map tI)), some (.int 2), none, none, none, none]) st := by kernel_rfl
theorem sw_3_2 (st : Store) : swL [some (.int 3), some (.int 2), some (.lst [.tup []]), none, none, none, none, none] st = .ok (.nx [some (.int 3), some (.int 2), some (.lst ((rowsL 2 3).map tI)), some (.int 2), none, none, none, none]) st := by kernel_rfl
theorem sw_3_3 (st : Store) : swL [some (.int 3), some (.int 3), some (.lst [.tup []]), none, none, none, none, none] st = .ok (.nx [some (.int 3), some (.int 3), some (.lst ((rowsL 3 3).map tI)), some (.int 2), none, none, none, none]) st := by kernel_rfl
theorem sw_3_4 (st : Store) : swL [some (.int 3), some (.int 4), some (.lst [.tup []]), none, none, none, none, none] st = .ok (.nx [some (.int 3), some (.int 4), some (.lst ((rowsL 4 3).map tI)), some (.int 2), none, none, none, none]) st := by kernel_rfl
theorem sw_4_1 (st : Store) : swL [some (.int 4), some (.int 1), some (.lst [.tup []]), none, none, none, none, none] st = .ok (.nx [some (.int 4), some (.int 1), some (.lst ((rowsL 1 4).map tI)), some (.int 3), none, none, none, none]) st := by kernel_rfl
theorem sw_4_2 (st : Store) : swL [some (.int 4), some (.int 2), some (.lst [.tup []]), none, none, none, none, none] st = .ok (.nx [some (.int 4), some (.int 2), some (.lst ((rowsL 2 4).map tI)), some (.int 3), none, none, none, none]) st := by kernel_rfl
theorem sw_4_3 (st : Store) : swL [some (.int 4), some (.int 3), some (.lst [.tup []]), none, none, none, none, none] st = .ok (.nx [some (.int 4), some (.int 3), some (.lst ((rowsL 3 4).map tI)), some (.int 3), none, none, none, none]) st := by kernel_rfl
theorem sw_4_4 (st : Store) : swL [some (.int 4), some (.int 4), some (.lst [.tup []]), none, none, none, none, none] st = .ok (.nx [some (.int 4), some (.int 4), some (.lst ((rowsL 4 4).map tI)), some (.int 3), none, none, none, none]) st := by kernel_rfl
theorem rows_run {k m : Nat} (h1 : 1 ≤ k) (h4 : k ≤ 4) (m1 : 1 ≤ m) (m4 : m ≤ 4) (st : Store) : ∃ y, swL [some (.int (k : Int)), some (.int (m : Int)), some (.lst [.tup []]), none, none, none, none, none] st = .ok (.nx [some (.int (k : Int)), some (.int (m : Int)), some (.lst ((rowsL m k).map tI)), y, none, none, none, none]) st := by
  rcases four h1 h4 with rfl | rfl | rfl | rfl <;> rcases four m1 m4 with rfl | rfl | rfl | rfl
  · exact ⟨_, sw_1_1 st⟩
  · exact ⟨_, sw_1_2 st⟩
  · exact ⟨_, sw_1_3 st⟩
  · exact ⟨_, sw_1_4 st⟩
  · exact ⟨_, sw_2_1 st⟩
  · exact ⟨_, sw_2_2 st⟩
  · exact ⟨_, sw_2_3 st⟩
  · exact ⟨_, sw_2_4 st⟩
  · exact ⟨_, sw_3_1 st⟩
  · exact ⟨_, sw_3_2 st⟩
  · exact ⟨_, sw_3_3 st⟩
  · exact ⟨_, sw_3_4 st⟩
  · exact ⟨_, sw_4_1 st⟩
  · exact ⟨_, sw_4_2 st⟩
  · exact ⟨_, sw_4_3 st⟩
  · exact ⟨_, sw_4_4 st⟩
theorem sumA_tI (r : List Int) (st : Store) : oSumA [tI r] st = some (.int r.sum) := by
  have a : oSum [tI r] st = none := rfl
  have b : oSumT [tI r] st = some (.int r.sum) := by simp only [oSumT, tI, asInts_nI]; rfl
  simp only [oSumA, cOr, a, b]
theorem small_weights_sp {k m : Nat} (h1 : 1 ≤ k) (h4 : k ≤ 4) (m1 : 1 ≤ m) (m4 : m ≤ 4) (st : Store) : p_small_weights [.int (k : Int), .int (m : Int)] st = .ok (.lst ((srtR (rowsL m k)).map tI)) st := by
  apply eqOk
  rw [sw_eq]
  unfold runF
  rw [ok_retF]
  simp only [env0, List.map_cons, List.map_nil, List.length_cons, List.length_nil, Nat.reduceAdd, Nat.reduceSub, List.reduceReplicate, List.cons_append, List.nil_append]
  simp only [wkA, List.set_cons_zero, List.set_cons_succ, Option.some.injEq, exists_eq_left', exists_eq_left, List.length_cons, List.length_nil, Nat.reduceAdd, Nat.reduceLeDiff, true_and, and_true, if_true, Bool.not_true, Bool.not_false, Bool.false_eq_true, if_false, decide_eq_true_eq, List.cons.injEq, ↓reduceIte]
  rw [nxK_nx]
  obtain ⟨y, e⟩ := rows_run h1 h4 m1 m4 st
  rw [ok_seq, Ok.eq e]
  rw [nxK_nx]
  simp only [wkA, List.set_cons_zero, List.set_cons_succ, Option.some.injEq, exists_eq_left', exists_eq_left, List.length_cons, List.length_nil, Nat.reduceAdd, Nat.reduceLeDiff, true_and, and_true, if_true, Bool.not_true, Bool.not_false, Bool.false_eq_true, if_false, decide_eq_true_eq, List.cons.injEq, ↓reduceIte]
  refine ⟨_, rfl, ?_⟩
  refine ok_mapE tI sumR (fun r hr => ?_) ?_
  · simp only [wipeE]
    simp only [wkA, List.set_cons_zero, List.set_cons_succ, Option.some.injEq, exists_eq_left', exists_eq_left, List.length_cons, List.length_nil, Nat.reduceAdd, Nat.reduceLeDiff, true_and, and_true, if_true, Bool.not_true, Bool.not_false, Bool.false_eq_true, if_false, decide_eq_true_eq, List.cons.injEq, ↓reduceIte]
    exact Op.of (sumA_tI r st) rfl
  · refine ⟨_, rfl, srt_ok _, ?_⟩
    rw [psort_map]
    refine ⟨_, rfl, ?_⟩
    refine ok_mapE sumR tI (fun r hr => ?_) ?_
    · unfold sumR
      simp only [wipeE]
      simp only [wkA, List.set_cons_zero, List.set_cons_succ, Option.some.injEq, exists_eq_left', exists_eq_left, List.length_cons, List.length_nil, Nat.reduceAdd, Nat.reduceLeDiff, true_and, and_true, if_true, Bool.not_true, Bool.not_false, Bool.false_eq_true, if_false, decide_eq_true_eq, List.cons.injEq, ↓reduceIte]
    · exact ⟨rfl, rfl⟩
end Lq
end
section
set_option Elab.async false
set_option linter.all false
set_option maxRecDepth 100000
namespace Lq
open PySem PySem.Spec PyProof.Rows L2
open Sx (at0 si)
end Lq
end
section
set_option Elab.async false
set_option linter.all false
set_option maxRecDepth 100000
namespace Lq
open PySem PySem.Spec PyProof.Rows L2
theorem ok_isE {t : Str → Bool} {cs : List Str} {f : XE} {env : Ev} {st : Store} {T : PV → Store → Prop} {k : Nat} {c : Str} (h : Ok (f env st) fun v s => v = .own k ∧ s[k]? = some (.exc c) ∧ c ∈ cs ∧ T (.bl (t c)) s) : Ok (eIsE t cs f env st) T := by
  obtain ⟨v, s, e, rfl, h1, h2, h3⟩ := h
  exact ⟨.bl (t c), s, by unfold eIsE; rw [e]; show (match s[k]? with | some (.exc c) => if c ∈ cs then R.ok (PV.bl (t c)) s else .no | _ => .no) = _; rw [h1]; show (if c ∈ cs then R.ok (PV.bl (t c)) s else .no) = _; rw [if_pos h2], h3⟩
theorem ok_tryX {i j r n : Nat} {cs : List Str} {f : Fn} {fl : XL} {env : Ev} {st : Store} {P : Fl → Store → Prop} {c : Str} (h : Ok (fl env st) fun vs s => vs.length = n ∧ Ex (f vs s) c fun s2 => c ∈ cs ∧ P (.nx ((env.set j (some (.own s2.length))).set i none)) (s2 ++ [.exc c])) : Ok (sTryCall i j r n cs f fl env st) P := by
  obtain ⟨vs, s, e, hl, s2, e2, h2, h3⟩ := h
  refine ⟨_, _, ?_, h3⟩
  unfold sTryCall
  rw [e]
  show (if vs.length = n then _ else R.no) = _
  rw [if_pos hl, e2]
  show (if c ∈ cs then _ else R.no) = _
  rw [if_pos h2]
theorem ok_lr {go : PV → PV → Store → Option PV} {fo : XE} {fl : XL} {env : Ev} {st : Store} {T : PV → Store → Prop} (h : Ok (fo env st) fun v s => (asL s v).isSome = true ∧ Ok (fl env s) fun ys s2 => ∃ y, ys = [y] ∧ Op (go v y s2) fun z => T z s2) : Ok (eLr go fo fl env st) T := by
  obtain ⟨v, s, e, ha, ys, s2, e2, y, rfl, z, e3, h3⟩ := h
  refine ⟨z, s2, ?_, h3⟩
  unfold eLr
  rw [e]
  obtain ⟨xs, ex⟩ := Option.isSome_iff_exists.mp ha
  show (match asL s v with | some _ => _ | none => R.no) = _
  rw [ex]
  show ((fl env s).bind _) = _
  rw [e2]
  show (match go v y s2 with | some z => R.ok z s2 | none => .no) = _
  rw [e3]
theorem add_ls (xs ys : List PV) (s : Store) (h : xs.length + ys.length ≤ 10000) : oAdd (.lst xs) (.lst ys) s = some (.lst (xs ++ ys)) := by
  have sz := szl
  have a : oAddI (.lst xs) (.lst ys) s = none := rfl
  have b : oAddT (.lst xs) (.lst ys) s = none := rfl
  have c : oAddS (.lst xs) (.lst ys) s = none := rfl
  have d : oAddL (.lst xs) (.lst ys) s = some (.lst (xs ++ ys)) := by
    simp only [oAddL, asM]
    rw [if_pos (by omega)]
  simp only [oAdd, oOr, a, b, c, d]
def excN (c : Str) : Nat := excs.findIdx (· == c)
theorem name_sp {k : Nat} {s : Store} {c : Str} (hc : c ∈ excs) (h : s[k]? = some (.exc c)) : p__law_name [.own k] s = .ok (.int (excN c : Int)) s := by
  apply eqOk
  have two : ∀ (y : Str) (T : PV → Store → Prop) (e : Ev), e[0]? = some (some (.own k)) → T (.bl (excIs y c)) s → Ok (eIsE (excIs y) excs (eVar 0) e s) T := fun y T e he ht => by
    refine ok_isE (k := k) (c := c) ?_
    rw [ok_var]
    exact ⟨_, he, rfl, h, hc, ht⟩
  (unfold p__law_name runF; rw [ok_retF]; simp only [env0, List.map_cons, List.map_nil, List.length_cons, List.length_nil, Nat.reduceAdd, Nat.reduceSub, List.reduceReplicate, List.cons_append, List.nil_append])
  rw [ok_seq, ok_if, ok_tNot, ok_tE]
  refine two _ _ _ rfl ?_
  have v : excIs "ValueError" c = true := rfl
  simp only [v, Bool.not_true, Bool.false_eq_true, if_false]
  simp only [wkA, List.set_cons_zero, List.set_cons_succ, Option.some.injEq, exists_eq_left', exists_eq_left, List.length_cons, List.length_nil, Nat.reduceAdd, Nat.reduceLeDiff, true_and, and_true, if_true, Bool.not_true, Bool.not_false, Bool.false_eq_true, if_false, decide_eq_true_eq, List.cons.injEq, ↓reduceIte]
  rw [nxK_nx]
  simp only [wkA, List.set_cons_zero, List.set_cons_succ, Option.some.injEq, exists_eq_left', exists_eq_left, List.length_cons, List.length_nil, Nat.reduceAdd, Nat.reduceLeDiff, true_and, and_true, if_true, Bool.not_true, Bool.not_false, Bool.false_eq_true, if_false, decide_eq_true_eq, List.cons.injEq, ↓reduceIte]
  refine two _ _ _ rfl ?_
  refine two _ _ _ rfl ?_
  try simp only [wkA, List.set_cons_zero, List.set_cons_succ, Option.some.injEq, exists_eq_left', exists_eq_left, List.length_cons, List.length_nil, Nat.reduceAdd, Nat.reduceLeDiff, true_and, and_true, if_true, Bool.not_true, Bool.not_false, Bool.false_eq_true, if_false, decide_eq_true_eq, List.cons.injEq, ↓reduceIte]
  rw [nxK_nx]
  simp only [wkA, List.set_cons_zero, List.set_cons_succ, Option.some.injEq, exists_eq_left', exists_eq_left, List.length_cons, List.length_nil, Nat.reduceAdd, Nat.reduceLeDiff, true_and, and_true, if_true, Bool.not_true, Bool.not_false, Bool.false_eq_true, if_false, decide_eq_true_eq, List.cons.injEq, ↓reduceIte]
  refine two _ _ _ rfl ?_
  refine two _ _ _ rfl ?_
  try simp only [wkA, List.set_cons_zero, List.set_cons_succ, Option.some.injEq, exists_eq_left', exists_eq_left, List.length_cons, List.length_nil, Nat.reduceAdd, Nat.reduceLeDiff, true_and, and_true, if_true, Bool.not_true, Bool.not_false, Bool.false_eq_true, if_false, decide_eq_true_eq, List.cons.injEq, ↓reduceIte]
  refine Op.of (add_ls _ _ _ (by simp)) ?_
  rw [nxK_nx]
  simp only [wkA, List.set_cons_zero, List.set_cons_succ, Option.some.injEq, exists_eq_left', exists_eq_left, List.length_cons, List.length_nil, Nat.reduceAdd, Nat.reduceLeDiff, true_and, and_true, if_true, Bool.not_true, Bool.not_false, Bool.false_eq_true, if_false, decide_eq_true_eq, List.cons.injEq, ↓reduceIte]
  refine two _ _ _ rfl ?_
  refine two _ _ _ rfl ?_
  try simp only [wkA, List.set_cons_zero, List.set_cons_succ, Option.some.injEq, exists_eq_left', exists_eq_left, List.length_cons, List.length_nil, Nat.reduceAdd, Nat.reduceLeDiff, true_and, and_true, if_true, Bool.not_true, Bool.not_false, Bool.false_eq_true, if_false, decide_eq_true_eq, List.cons.injEq, ↓reduceIte]
  refine Op.of (add_ls _ _ _ (by simp)) ?_
  rw [nxK_nx]
  simp only [wkA, List.set_cons_zero, List.set_cons_succ, Option.some.injEq, exists_eq_left', exists_eq_left, List.length_cons, List.length_nil, Nat.reduceAdd, Nat.reduceLeDiff, true_and, and_true, if_true, Bool.not_true, Bool.not_false, Bool.false_eq_true, if_false, decide_eq_true_eq, List.cons.injEq, ↓reduceIte]
  refine two _ _ _ rfl ?_
  refine two _ _ _ rfl ?_
  try simp only [wkA, List.set_cons_zero, List.set_cons_succ, Option.some.injEq, exists_eq_left', exists_eq_left, List.length_cons, List.length_nil, Nat.reduceAdd, Nat.reduceLeDiff, true_and, and_true, if_true, Bool.not_true, Bool.not_false, Bool.false_eq_true, if_false, decide_eq_true_eq, List.cons.injEq, ↓reduceIte]
  refine Op.of (add_ls _ _ _ (by simp)) ?_
  rw [nxK_nx]
  simp only [wkA, List.set_cons_zero, List.set_cons_succ, Option.some.injEq, exists_eq_left', exists_eq_left, List.length_cons, List.length_nil, Nat.reduceAdd, Nat.reduceLeDiff, true_and, and_true, if_true, Bool.not_true, Bool.not_false, Bool.false_eq_true, if_false, decide_eq_true_eq, List.cons.injEq, ↓reduceIte]
  refine two _ _ _ rfl ?_
  refine two _ _ _ rfl ?_
  try simp only [wkA, List.set_cons_zero, List.set_cons_succ, Option.some.injEq, exists_eq_left', exists_eq_left, List.length_cons, List.length_nil, Nat.reduceAdd, Nat.reduceLeDiff, true_and, and_true, if_true, Bool.not_true, Bool.not_false, Bool.false_eq_true, if_false, decide_eq_true_eq, List.cons.injEq, ↓reduceIte]
  refine Op.of (add_ls _ _ _ (by simp)) ?_
  rw [nxK_nx]
  simp only [wkA, List.set_cons_zero, List.set_cons_succ, Option.some.injEq, exists_eq_left', exists_eq_left, List.length_cons, List.length_nil, Nat.reduceAdd, Nat.reduceLeDiff, true_and, and_true, if_true, Bool.not_true, Bool.not_false, Bool.false_eq_true, if_false, decide_eq_true_eq, List.cons.injEq, ↓reduceIte]
  refine two _ _ _ rfl ?_
  try simp only [wkA, List.set_cons_zero, List.set_cons_succ, Option.some.injEq, exists_eq_left', exists_eq_left, List.length_cons, List.length_nil, Nat.reduceAdd, Nat.reduceLeDiff, true_and, and_true, if_true, Bool.not_true, Bool.not_false, Bool.false_eq_true, if_false, decide_eq_true_eq, List.cons.injEq, ↓reduceIte]
  refine Op.of (add_ls _ _ _ (by simp)) ?_
  rw [nxK_nx]
  simp only [List.cons_append, List.nil_append]
  have co : ∀ c : Str, c ∈ excs → goCount (.lst [.bl (excIs "InvalidThings" c), .bl (excIs "InvalidTold" c), .bl (excIs "InvalidWeights" c), .bl (excIs "InvalidLot" c), .bl (excIs "InvalidComparison" c), .bl (excIs "InvalidNumber" c), .bl (excIs "InvalidText" c), .bl (excIs "NotSure" c), .bl (excIs "NoneAgree" c), .bl (excIs "TooMany" c), .bl (excIs "NothingToUndo" c)]) (.bl true) s = some (.int 1) := by
    intro c hc
    simp only [excs, List.mem_cons, List.not_mem_nil, or_false] at hc
    rcases hc with rfl | rfl | rfl | rfl | rfl | rfl | rfl | rfl | rfl | rfl | rfl <;> kernel_rfl
  have ix : ∀ c : Str, c ∈ excs → goIndex (.lst [.bl (excIs "InvalidThings" c), .bl (excIs "InvalidTold" c), .bl (excIs "InvalidWeights" c), .bl (excIs "InvalidLot" c), .bl (excIs "InvalidComparison" c), .bl (excIs "InvalidNumber" c), .bl (excIs "InvalidText" c), .bl (excIs "NotSure" c), .bl (excIs "NoneAgree" c), .bl (excIs "TooMany" c), .bl (excIs "NothingToUndo" c)]) (.bl true) s = some (.int (excN c : Int)) := by
    intro c hc
    simp only [excs, List.mem_cons, List.not_mem_nil, or_false] at hc
    rcases hc with rfl | rfl | rfl | rfl | rfl | rfl | rfl | rfl | rfl | rfl | rfl <;> kernel_rfl
  rw [ok_ret, ok_eIf, ok_tE, ok_bin]
  refine ok_lr ?_
  simp only [wkA, List.set_cons_zero, List.set_cons_succ, Option.some.injEq, exists_eq_left', exists_eq_left, List.length_cons, List.length_nil, Nat.reduceAdd, Nat.reduceLeDiff, true_and, and_true, if_true, Bool.not_true, Bool.not_false, Bool.false_eq_true, if_false, decide_eq_true_eq, List.cons.injEq, ↓reduceIte]
  refine ⟨rfl, Op.of (co c hc) ?_⟩
  try simp only [wkA, List.set_cons_zero, List.set_cons_succ, Option.some.injEq, exists_eq_left', exists_eq_left, List.length_cons, List.length_nil, Nat.reduceAdd, Nat.reduceLeDiff, true_and, and_true, if_true, Bool.not_true, Bool.not_false, Bool.false_eq_true, if_false, decide_eq_true_eq, List.cons.injEq, ↓reduceIte]
  simp only [oEq_int, op_some, BEq.rfl, if_true]
  refine ok_lr ?_
  simp only [wkA, List.set_cons_zero, List.set_cons_succ, Option.some.injEq, exists_eq_left', exists_eq_left, List.length_cons, List.length_nil, Nat.reduceAdd, Nat.reduceLeDiff, true_and, and_true, if_true, Bool.not_true, Bool.not_false, Bool.false_eq_true, if_false, decide_eq_true_eq, List.cons.injEq, ↓reduceIte]
  exact ⟨rfl, Op.of (ix c hc) rfl⟩
end Lq
end
section
set_option Elab.async false
set_option linter.all false
set_option maxRecDepth 100000
namespace Lq
open PySem PySem.Spec PyProof.Rows L2
section
variable {c : Str} {P : Store → Prop} {env : Ev} {st : Store}
theorem ex_bind {α β : Type} {r : R α} {k : α → Store → R β} (h : Ok r fun a s => Ex (k a s) c P) : Ex (r.bind k) c P := by
  obtain ⟨a, s, e, h⟩ := h
  rw [e]; exact h
theorem ex_bindX {α β : Type} {r : R α} {k : α → Store → R β} (h : Ex r c P) : Ex (r.bind k) c P := by
  obtain ⟨s, e, h⟩ := h
  rw [e]; exact ⟨s, rfl, h⟩
theorem ex_seq {a b : XS} (h : Ok (a env st) fun fl s => match fl with | .nx e => Ex (b e s) c P | _ => False) : Ex (sSeq a b env st) c P := by
  refine ex_bind (h.mono fun fl s h => ?_)
  cases fl <;> first | exact h | exact h.elim
theorem ex_seqX {a b : XS} (h : Ex (a env st) c P) : Ex (sSeq a b env st) c P := ex_bindX h
theorem ex_if {d : Ev → Store → R Bool} {a b : XS} (h : Ok (d env st) fun k s => if k = true then Ex (a env s) c P else Ex (b env s) c P) : Ex (sIf d a b env st) c P := by
  refine ex_bind (h.mono fun k s h => ?_)
  cases k <;> exact h
theorem ex_raise (h : P st) : Ex (sRaise c env st) c P := ⟨st, rfl, h⟩
theorem ex_ret {f : XE} (h : Ex (f env st) c P) : Ex (sRet f env st) c P := ex_bindX h
theorem ex_set {i : Nat} {f : XE} (h : Ex (f env st) c P) : Ex (sSet i f env st) c P := ex_bindX h
theorem ex_retF {r : R Fl} (h : Ex r c P) : Ex (ret r) c P := ex_bindX h
theorem ex_call {n : Nat} {f : Fn} {al : XL} (h : Ok (al env st) fun xs s => xs.length = n ∧ Ex (f xs s) c P) : Ex (eCall n f al env st) c P := by
  refine ex_bind (h.mono fun xs s h => ?_)
  rw [if_pos h.1]; exact h.2
end
end Lq
end
section
set_option Elab.async false
set_option linter.all false
set_option maxRecDepth 100000
namespace Lq
open PySem PySem.Spec PyProof.Rows L2
open Sx (at0 si)
theorem ok_fmapK {α : Type} {env : Ev} {L : List PV → Store → Prop} {ft : PV → Ev → Store → R Ev} {tt : Ev → Store → R Bool} {fe : XE} (emb : α → PV) (p : α → Bool) (F : α → PV) {zs : List α} {st : Store} (h : ∀ z, z ∈ zs → ∀ s0, Keeps [] st s0 → Ok (ft (emb z) env s0) fun e s => Ok (tt e s) fun k s' => k = p z ∧ Keeps [] st s' ∧ (p z = true → Ok (fe e s') fun v s2 => v = F z ∧ Keeps [] st s2)) (k : ∀ s, Keeps [] st s → L ((zs.filter p).map F) s) : Ok (compV ft tt fe env (zs.map emb) st) L := by
  refine ok_compV (fun i pre s => pre = ((zs.take i).filter p).map F ∧ Keeps [] st s) (zs.map emb) 0 [] st (fun i x hx pre s hp => ?_) ⟨rfl, Keeps.refl _ _⟩ fun all s hp => ?_
  · obtain ⟨rfl, K⟩ := hp
    rw [List.getElem?_map] at hx
    obtain ⟨z, e, rfl⟩ := Option.map_eq_some_iff.mp hx
    refine (h z (List.mem_of_getElem? e) s K).mono fun e1 s1 h1 => h1.mono fun b s2 h2 => ?_
    obtain ⟨rfl, K2, h3⟩ := h2
    rw [Nat.zero_add, List.take_add_one, e, List.filter_append, List.map_append]
    split
    · rename_i q
      refine (h3 q).mono fun v s2 h2 => ?_
      obtain ⟨rfl, K3⟩ := h2
      simp [q, K3]
    · rename_i q
      simp [q, K2]
  · obtain ⟨e, K⟩ := hp
    rw [Nat.zero_add, List.length_map, List.take_length, List.nil_append] at e
    rw [e]; exact k s K
end Lq
end
section
set_option Elab.async false
set_option linter.all false
set_option maxRecDepth 10000
namespace Lq
end Lq
end
section
set_option Elab.async false
set_option linter.all false
set_option maxRecDepth 100000
namespace Lq
open PySem PySem.Spec PyProof.Rows L2
open Sx (at0 si)
end Lq
end
section
set_option Elab.async false
set_option linter.all false
set_option maxRecDepth 10000
namespace Lq
open PySem PySem.Spec PyProof.Rows L2
def p_found_order : Fn := runF 4
    (sSeq (sSet 1 eDct)
    (sSeq (sFor (iVal (eCall 1 p_all_lots (aCons (eCB oLen (aCons (eVar 0) aNil)) aNil))) (gNm 2) (sSeq (sSet 3 (eCall 2 p_found_weight (aCons (eVar 0) (aCons (eVar 2) aNil))))
    (sDput (eVar 1) (eVar 3) (eBin oAdd (eDget2 (eVar 1) (eVar 3) (eTup aNil)) (eTup (aCons (eVar 2) aNil))))))
    (sRet (eCB oTuple (aCons (eFz (fComp (iVal (eFz (fSortK (eVar 1)))) (gNm 3) (fun _ st => .ok true st) (eDget (eVar 1) (eVar 3)) [3])) aNil)))))
def p_found_orders : Fn := runF 4
    (sSeq (sSet 1 eDcn)
    (sSeq (sFor (iVal (eCall 2 p_small_weights (aCons (eVar 0) (aCons (eC (.int 4)) aNil)))) (gNm 2) (sSeq (sSet 3 (eCall 1 p_found_order (aCons (eVar 2) aNil)))
    (sIf (tE (eBin oNinN (eVar 3) (eVar 1))) (sAsg (eVar 2) (gSubN (eVar 1) (eVar 3))) sNil)))
    (sRet (eVar 1))))
def p_found_agreeing : Fn := runF 4
    (sSeq (sDrop (eCall 2 p_check_told (aCons (eVar 0) (aCons (eVar 1) aNil))))
    (sSeq (sIf (tE (eBin oGtI (eVar 0) (eC (.int 3)))) (sRaise "TooMany") sNil)
    (sRet (eFz (fComp (iItemsF (eFrzD (eCall 1 p_found_orders (aCons (eVar 0) aNil)))) (gTp 2 (gsCons (gNm 2) (gsCons (gNm 3) gsNil))) (tE (eCall 2 p_do_agree (aCons (eVar 1) (aCons (eVar 3) aNil)))) (eTup (aCons (eVar 2) (aCons (eVar 3) aNil))) [2, 3])))))
def p_weights_left : Fn := runF 5
    (sSeq (sSet 2 (eCB oTuple (aCons (eFz (fComp (iVal (eCall 2 p_found_agreeing (aCons (eVar 0) (aCons (eVar 1) aNil)))) (gTp 2 (gsCons (gNm 3) (gsCons (gNm 4) gsNil))) (fun _ st => .ok true st) (eVar 4) [3, 4])) aNil)))
    (sSeq (sIf (tE (eBin oEq (eVar 2) (eTup aNil))) (sRaise "NoneAgree") sNil)
    (sRet (eVar 2))))
def p_parted : Fn := runF 5
    (sSeq (sSet 2 eDct)
    (sSeq (sFor (iVal (eVar 0)) (gNm 3) (sSeq (sSet 4 (eCall 2 p_answer_of (aCons (eVar 1) (aCons (eVar 3) aNil))))
    (sDput (eVar 2) (eVar 4) (eBin oAdd (eDget2 (eVar 2) (eVar 4) (eTup aNil)) (eTup (aCons (eVar 3) aNil))))))
    (sRet (eFz (fComp (iVal (eFz (fSortK (eVar 2)))) (gNm 4) (fun _ st => .ok true st) (eTup (aCons (eVar 4) (aCons (eDget (eVar 2) (eVar 4)) aNil))) [4])))))
def p_fewest_for_r0 : Fn := runF 8
    sBar
def p_fewest_for_r1 : Fn := runF 8
    (sSeq (sIf (tE (eBin oEq (eCB oLen (aCons (eVar 1) aNil)) (eC (.int 1)))) (sRet (eC (.int 0))) sNil)
    (sSeq (sIf (tE (eBin oNinN (eVar 1) (eVar 2))) (sSeq (sSet 3 (eOw (fDisp aNil)))
    (sSeq (sFor (iVal (eVar 0)) (gNm 4) (sSeq (sSet 5 (eCall 2 p_parted (aCons (eVar 1) (aCons (eVar 4) aNil))))
    (sIf (tE (eBin oGtI (eCB oLen (aCons (eVar 5) aNil)) (eC (.int 1)))) (sDrop (eLm goApp (eVar 3) (aCons (eBin oAdd (eC (.int 1)) (eCB oMax (aCons (eFz (fComp (iVal (eVar 5)) (gTp 2 (gsCons (gNm 6) (gsCons (gNm 7) gsNil))) (fun _ st => .ok true st) (eCall 3 p_fewest_for_r0 (aCons (eVar 0) (aCons (eVar 7) (aCons (eVar 2) aNil)))) [6, 7])) aNil))) aNil))) sNil)))
    (sAsg (eCB oMin (aCons (eFrz (eVar 3)) aNil)) (gSubN (eVar 2) (eVar 1))))) sNil)
    (sRet (eNget (eVar 2) (eVar 1)))))
def p_fewest_for_r2 : Fn := runF 8
    (sSeq (sIf (tE (eBin oEq (eCB oLen (aCons (eVar 1) aNil)) (eC (.int 1)))) (sRet (eC (.int 0))) sNil)
    (sSeq (sIf (tE (eBin oNinN (eVar 1) (eVar 2))) (sSeq (sSet 3 (eOw (fDisp aNil)))
    (sSeq (sFor (iVal (eVar 0)) (gNm 4) (sSeq (sSet 5 (eCall 2 p_parted (aCons (eVar 1) (aCons (eVar 4) aNil))))
    (sIf (tE (eBin oGtI (eCB oLen (aCons (eVar 5) aNil)) (eC (.int 1)))) (sDrop (eLm goApp (eVar 3) (aCons (eBin oAdd (eC (.int 1)) (eCB oMax (aCons (eFz (fComp (iVal (eVar 5)) (gTp 2 (gsCons (gNm 6) (gsCons (gNm 7) gsNil))) (fun _ st => .ok true st) (eCall 3 p_fewest_for_r1 (aCons (eVar 0) (aCons (eVar 7) (aCons (eVar 2) aNil)))) [6, 7])) aNil))) aNil))) sNil)))
    (sAsg (eCB oMin (aCons (eFrz (eVar 3)) aNil)) (gSubN (eVar 2) (eVar 1))))) sNil)
    (sRet (eNget (eVar 2) (eVar 1)))))
def p_fewest_for_r3 : Fn := runF 8
    (sSeq (sIf (tE (eBin oEq (eCB oLen (aCons (eVar 1) aNil)) (eC (.int 1)))) (sRet (eC (.int 0))) sNil)
    (sSeq (sIf (tE (eBin oNinN (eVar 1) (eVar 2))) (sSeq (sSet 3 (eOw (fDisp aNil)))
    (sSeq (sFor (iVal (eVar 0)) (gNm 4) (sSeq (sSet 5 (eCall 2 p_parted (aCons (eVar 1) (aCons (eVar 4) aNil))))
    (sIf (tE (eBin oGtI (eCB oLen (aCons (eVar 5) aNil)) (eC (.int 1)))) (sDrop (eLm goApp (eVar 3) (aCons (eBin oAdd (eC (.int 1)) (eCB oMax (aCons (eFz (fComp (iVal (eVar 5)) (gTp 2 (gsCons (gNm 6) (gsCons (gNm 7) gsNil))) (fun _ st => .ok true st) (eCall 3 p_fewest_for_r2 (aCons (eVar 0) (aCons (eVar 7) (aCons (eVar 2) aNil)))) [6, 7])) aNil))) aNil))) sNil)))
    (sAsg (eCB oMin (aCons (eFrz (eVar 3)) aNil)) (gSubN (eVar 2) (eVar 1))))) sNil)
    (sRet (eNget (eVar 2) (eVar 1)))))
def p_fewest_for_r4 : Fn := runF 8
    (sSeq (sIf (tE (eBin oEq (eCB oLen (aCons (eVar 1) aNil)) (eC (.int 1)))) (sRet (eC (.int 0))) sNil)
    (sSeq (sIf (tE (eBin oNinN (eVar 1) (eVar 2))) (sSeq (sSet 3 (eOw (fDisp aNil)))
    (sSeq (sFor (iVal (eVar 0)) (gNm 4) (sSeq (sSet 5 (eCall 2 p_parted (aCons (eVar 1) (aCons (eVar 4) aNil))))
    (sIf (tE (eBin oGtI (eCB oLen (aCons (eVar 5) aNil)) (eC (.int 1)))) (sDrop (eLm goApp (eVar 3) (aCons (eBin oAdd (eC (.int 1)) (eCB oMax (aCons (eFz (fComp (iVal (eVar 5)) (gTp 2 (gsCons (gNm 6) (gsCons (gNm 7) gsNil))) (fun _ st => .ok true st) (eCall 3 p_fewest_for_r3 (aCons (eVar 0) (aCons (eVar 7) (aCons (eVar 2) aNil)))) [6, 7])) aNil))) aNil))) sNil)))
    (sAsg (eCB oMin (aCons (eFrz (eVar 3)) aNil)) (gSubN (eVar 2) (eVar 1))))) sNil)
    (sRet (eNget (eVar 2) (eVar 1)))))
def p_fewest_for_r5 : Fn := runF 8
    (sSeq (sIf (tE (eBin oEq (eCB oLen (aCons (eVar 1) aNil)) (eC (.int 1)))) (sRet (eC (.int 0))) sNil)
    (sSeq (sIf (tE (eBin oNinN (eVar 1) (eVar 2))) (sSeq (sSet 3 (eOw (fDisp aNil)))
    (sSeq (sFor (iVal (eVar 0)) (gNm 4) (sSeq (sSet 5 (eCall 2 p_parted (aCons (eVar 1) (aCons (eVar 4) aNil))))
    (sIf (tE (eBin oGtI (eCB oLen (aCons (eVar 5) aNil)) (eC (.int 1)))) (sDrop (eLm goApp (eVar 3) (aCons (eBin oAdd (eC (.int 1)) (eCB oMax (aCons (eFz (fComp (iVal (eVar 5)) (gTp 2 (gsCons (gNm 6) (gsCons (gNm 7) gsNil))) (fun _ st => .ok true st) (eCall 3 p_fewest_for_r4 (aCons (eVar 0) (aCons (eVar 7) (aCons (eVar 2) aNil)))) [6, 7])) aNil))) aNil))) sNil)))
    (sAsg (eCB oMin (aCons (eFrz (eVar 3)) aNil)) (gSubN (eVar 2) (eVar 1))))) sNil)
    (sRet (eNget (eVar 2) (eVar 1)))))
def p_fewest_for_r6 : Fn := runF 8
    (sSeq (sIf (tE (eBin oEq (eCB oLen (aCons (eVar 1) aNil)) (eC (.int 1)))) (sRet (eC (.int 0))) sNil)
    (sSeq (sIf (tE (eBin oNinN (eVar 1) (eVar 2))) (sSeq (sSet 3 (eOw (fDisp aNil)))
    (sSeq (sFor (iVal (eVar 0)) (gNm 4) (sSeq (sSet 5 (eCall 2 p_parted (aCons (eVar 1) (aCons (eVar 4) aNil))))
    (sIf (tE (eBin oGtI (eCB oLen (aCons (eVar 5) aNil)) (eC (.int 1)))) (sDrop (eLm goApp (eVar 3) (aCons (eBin oAdd (eC (.int 1)) (eCB oMax (aCons (eFz (fComp (iVal (eVar 5)) (gTp 2 (gsCons (gNm 6) (gsCons (gNm 7) gsNil))) (fun _ st => .ok true st) (eCall 3 p_fewest_for_r5 (aCons (eVar 0) (aCons (eVar 7) (aCons (eVar 2) aNil)))) [6, 7])) aNil))) aNil))) sNil)))
    (sAsg (eCB oMin (aCons (eFrz (eVar 3)) aNil)) (gSubN (eVar 2) (eVar 1))))) sNil)
    (sRet (eNget (eVar 2) (eVar 1)))))
def p_fewest_for : Fn := runF 8
    (sSeq (sIf (tE (eBin oEq (eCB oLen (aCons (eVar 1) aNil)) (eC (.int 1)))) (sRet (eC (.int 0))) sNil)
    (sSeq (sIf (tE (eBin oNinN (eVar 1) (eVar 2))) (sSeq (sSet 3 (eOw (fDisp aNil)))
    (sSeq (sFor (iVal (eVar 0)) (gNm 4) (sSeq (sSet 5 (eCall 2 p_parted (aCons (eVar 1) (aCons (eVar 4) aNil))))
    (sIf (tE (eBin oGtI (eCB oLen (aCons (eVar 5) aNil)) (eC (.int 1)))) (sDrop (eLm goApp (eVar 3) (aCons (eBin oAdd (eC (.int 1)) (eCB oMax (aCons (eFz (fComp (iVal (eVar 5)) (gTp 2 (gsCons (gNm 6) (gsCons (gNm 7) gsNil))) (fun _ st => .ok true st) (eCall 3 p_fewest_for_r6 (aCons (eVar 0) (aCons (eVar 7) (aCons (eVar 2) aNil)))) [6, 7])) aNil))) aNil))) sNil)))
    (sAsg (eCB oMin (aCons (eFrz (eVar 3)) aNil)) (gSubN (eVar 2) (eVar 1))))) sNil)
    (sRet (eNget (eVar 2) (eVar 1)))))
def p_plan_for_r0 : Fn := runF 8
    sBar
def p_plan_for_r1 : Fn := runF 8
    (sSeq (sSet 3 (eCall 3 p_fewest_for (aCons (eVar 0) (aCons (eVar 1) (aCons (eVar 2) aNil)))))
    (sSeq (sIf (tE (eBin oEq (eVar 3) (eC (.int 0)))) (sRet (eC .non)) sNil)
    (sSeq (sFor (iVal (eVar 0)) (gNm 4) (sSeq (sSet 5 (eCall 2 p_parted (aCons (eVar 1) (aCons (eVar 4) aNil))))
    (sIf (tAndF (tE (eBin oGtI (eCB oLen (aCons (eVar 5) aNil)) (eC (.int 1)))) (tE (eBin oEq (eBin oAdd (eC (.int 1)) (eCB oMax (aCons (eFz (fComp (iVal (eVar 5)) (gTp 2 (gsCons (gNm 6) (gsCons (gNm 7) gsNil))) (fun _ st => .ok true st) (eCall 3 p_fewest_for (aCons (eVar 0) (aCons (eVar 7) (aCons (eVar 2) aNil)))) [6, 7])) aNil))) (eVar 3)))) (sRet (eTup (aCons (eVar 4) (aCons (eCB oTuple (aCons (eFz (fComp (iVal (eVar 5)) (gTp 2 (gsCons (gNm 6) (gsCons (gNm 7) gsNil))) (fun _ st => .ok true st) (eTup (aCons (eVar 6) (aCons (eCall 3 p_plan_for_r0 (aCons (eVar 0) (aCons (eVar 7) (aCons (eVar 2) aNil)))) aNil))) [6, 7])) aNil)) aNil)))) sNil)))
    (sRet (eC .non)))))
def p_plan_for_r2 : Fn := runF 8
    (sSeq (sSet 3 (eCall 3 p_fewest_for (aCons (eVar 0) (aCons (eVar 1) (aCons (eVar 2) aNil)))))
    (sSeq (sIf (tE (eBin oEq (eVar 3) (eC (.int 0)))) (sRet (eC .non)) sNil)
    (sSeq (sFor (iVal (eVar 0)) (gNm 4) (sSeq (sSet 5 (eCall 2 p_parted (aCons (eVar 1) (aCons (eVar 4) aNil))))
    (sIf (tAndF (tE (eBin oGtI (eCB oLen (aCons (eVar 5) aNil)) (eC (.int 1)))) (tE (eBin oEq (eBin oAdd (eC (.int 1)) (eCB oMax (aCons (eFz (fComp (iVal (eVar 5)) (gTp 2 (gsCons (gNm 6) (gsCons (gNm 7) gsNil))) (fun _ st => .ok true st) (eCall 3 p_fewest_for (aCons (eVar 0) (aCons (eVar 7) (aCons (eVar 2) aNil)))) [6, 7])) aNil))) (eVar 3)))) (sRet (eTup (aCons (eVar 4) (aCons (eCB oTuple (aCons (eFz (fComp (iVal (eVar 5)) (gTp 2 (gsCons (gNm 6) (gsCons (gNm 7) gsNil))) (fun _ st => .ok true st) (eTup (aCons (eVar 6) (aCons (eCall 3 p_plan_for_r1 (aCons (eVar 0) (aCons (eVar 7) (aCons (eVar 2) aNil)))) aNil))) [6, 7])) aNil)) aNil)))) sNil)))
    (sRet (eC .non)))))
def p_plan_for_r3 : Fn := runF 8
    (sSeq (sSet 3 (eCall 3 p_fewest_for (aCons (eVar 0) (aCons (eVar 1) (aCons (eVar 2) aNil)))))
    (sSeq (sIf (tE (eBin oEq (eVar 3) (eC (.int 0)))) (sRet (eC .non)) sNil)
    (sSeq (sFor (iVal (eVar 0)) (gNm 4) (sSeq (sSet 5 (eCall 2 p_parted (aCons (eVar 1) (aCons (eVar 4) aNil))))
    (sIf (tAndF (tE (eBin oGtI (eCB oLen (aCons (eVar 5) aNil)) (eC (.int 1)))) (tE (eBin oEq (eBin oAdd (eC (.int 1)) (eCB oMax (aCons (eFz (fComp (iVal (eVar 5)) (gTp 2 (gsCons (gNm 6) (gsCons (gNm 7) gsNil))) (fun _ st => .ok true st) (eCall 3 p_fewest_for (aCons (eVar 0) (aCons (eVar 7) (aCons (eVar 2) aNil)))) [6, 7])) aNil))) (eVar 3)))) (sRet (eTup (aCons (eVar 4) (aCons (eCB oTuple (aCons (eFz (fComp (iVal (eVar 5)) (gTp 2 (gsCons (gNm 6) (gsCons (gNm 7) gsNil))) (fun _ st => .ok true st) (eTup (aCons (eVar 6) (aCons (eCall 3 p_plan_for_r2 (aCons (eVar 0) (aCons (eVar 7) (aCons (eVar 2) aNil)))) aNil))) [6, 7])) aNil)) aNil)))) sNil)))
    (sRet (eC .non)))))
def p_plan_for_r4 : Fn := runF 8
    (sSeq (sSet 3 (eCall 3 p_fewest_for (aCons (eVar 0) (aCons (eVar 1) (aCons (eVar 2) aNil)))))
    (sSeq (sIf (tE (eBin oEq (eVar 3) (eC (.int 0)))) (sRet (eC .non)) sNil)
    (sSeq (sFor (iVal (eVar 0)) (gNm 4) (sSeq (sSet 5 (eCall 2 p_parted (aCons (eVar 1) (aCons (eVar 4) aNil))))
    (sIf (tAndF (tE (eBin oGtI (eCB oLen (aCons (eVar 5) aNil)) (eC (.int 1)))) (tE (eBin oEq (eBin oAdd (eC (.int 1)) (eCB oMax (aCons (eFz (fComp (iVal (eVar 5)) (gTp 2 (gsCons (gNm 6) (gsCons (gNm 7) gsNil))) (fun _ st => .ok true st) (eCall 3 p_fewest_for (aCons (eVar 0) (aCons (eVar 7) (aCons (eVar 2) aNil)))) [6, 7])) aNil))) (eVar 3)))) (sRet (eTup (aCons (eVar 4) (aCons (eCB oTuple (aCons (eFz (fComp (iVal (eVar 5)) (gTp 2 (gsCons (gNm 6) (gsCons (gNm 7) gsNil))) (fun _ st => .ok true st) (eTup (aCons (eVar 6) (aCons (eCall 3 p_plan_for_r3 (aCons (eVar 0) (aCons (eVar 7) (aCons (eVar 2) aNil)))) aNil))) [6, 7])) aNil)) aNil)))) sNil)))
    (sRet (eC .non)))))
def p_plan_for_r5 : Fn := runF 8
    (sSeq (sSet 3 (eCall 3 p_fewest_for (aCons (eVar 0) (aCons (eVar 1) (aCons (eVar 2) aNil)))))
    (sSeq (sIf (tE (eBin oEq (eVar 3) (eC (.int 0)))) (sRet (eC .non)) sNil)
    (sSeq (sFor (iVal (eVar 0)) (gNm 4) (sSeq (sSet 5 (eCall 2 p_parted (aCons (eVar 1) (aCons (eVar 4) aNil))))
    (sIf (tAndF (tE (eBin oGtI (eCB oLen (aCons (eVar 5) aNil)) (eC (.int 1)))) (tE (eBin oEq (eBin oAdd (eC (.int 1)) (eCB oMax (aCons (eFz (fComp (iVal (eVar 5)) (gTp 2 (gsCons (gNm 6) (gsCons (gNm 7) gsNil))) (fun _ st => .ok true st) (eCall 3 p_fewest_for (aCons (eVar 0) (aCons (eVar 7) (aCons (eVar 2) aNil)))) [6, 7])) aNil))) (eVar 3)))) (sRet (eTup (aCons (eVar 4) (aCons (eCB oTuple (aCons (eFz (fComp (iVal (eVar 5)) (gTp 2 (gsCons (gNm 6) (gsCons (gNm 7) gsNil))) (fun _ st => .ok true st) (eTup (aCons (eVar 6) (aCons (eCall 3 p_plan_for_r4 (aCons (eVar 0) (aCons (eVar 7) (aCons (eVar 2) aNil)))) aNil))) [6, 7])) aNil)) aNil)))) sNil)))
    (sRet (eC .non)))))
def p_plan_for_r6 : Fn := runF 8
    (sSeq (sSet 3 (eCall 3 p_fewest_for (aCons (eVar 0) (aCons (eVar 1) (aCons (eVar 2) aNil)))))
    (sSeq (sIf (tE (eBin oEq (eVar 3) (eC (.int 0)))) (sRet (eC .non)) sNil)
    (sSeq (sFor (iVal (eVar 0)) (gNm 4) (sSeq (sSet 5 (eCall 2 p_parted (aCons (eVar 1) (aCons (eVar 4) aNil))))
    (sIf (tAndF (tE (eBin oGtI (eCB oLen (aCons (eVar 5) aNil)) (eC (.int 1)))) (tE (eBin oEq (eBin oAdd (eC (.int 1)) (eCB oMax (aCons (eFz (fComp (iVal (eVar 5)) (gTp 2 (gsCons (gNm 6) (gsCons (gNm 7) gsNil))) (fun _ st => .ok true st) (eCall 3 p_fewest_for (aCons (eVar 0) (aCons (eVar 7) (aCons (eVar 2) aNil)))) [6, 7])) aNil))) (eVar 3)))) (sRet (eTup (aCons (eVar 4) (aCons (eCB oTuple (aCons (eFz (fComp (iVal (eVar 5)) (gTp 2 (gsCons (gNm 6) (gsCons (gNm 7) gsNil))) (fun _ st => .ok true st) (eTup (aCons (eVar 6) (aCons (eCall 3 p_plan_for_r5 (aCons (eVar 0) (aCons (eVar 7) (aCons (eVar 2) aNil)))) aNil))) [6, 7])) aNil)) aNil)))) sNil)))
    (sRet (eC .non)))))
def p_plan_for : Fn := runF 8
    (sSeq (sSet 3 (eCall 3 p_fewest_for (aCons (eVar 0) (aCons (eVar 1) (aCons (eVar 2) aNil)))))
    (sSeq (sIf (tE (eBin oEq (eVar 3) (eC (.int 0)))) (sRet (eC .non)) sNil)
    (sSeq (sFor (iVal (eVar 0)) (gNm 4) (sSeq (sSet 5 (eCall 2 p_parted (aCons (eVar 1) (aCons (eVar 4) aNil))))
    (sIf (tAndF (tE (eBin oGtI (eCB oLen (aCons (eVar 5) aNil)) (eC (.int 1)))) (tE (eBin oEq (eBin oAdd (eC (.int 1)) (eCB oMax (aCons (eFz (fComp (iVal (eVar 5)) (gTp 2 (gsCons (gNm 6) (gsCons (gNm 7) gsNil))) (fun _ st => .ok true st) (eCall 3 p_fewest_for (aCons (eVar 0) (aCons (eVar 7) (aCons (eVar 2) aNil)))) [6, 7])) aNil))) (eVar 3)))) (sRet (eTup (aCons (eVar 4) (aCons (eCB oTuple (aCons (eFz (fComp (iVal (eVar 5)) (gTp 2 (gsCons (gNm 6) (gsCons (gNm 7) gsNil))) (fun _ st => .ok true st) (eTup (aCons (eVar 6) (aCons (eCall 3 p_plan_for_r6 (aCons (eVar 0) (aCons (eVar 7) (aCons (eVar 2) aNil)))) aNil))) [6, 7])) aNil)) aNil)))) sNil)))
    (sRet (eC .non)))))
def p_question_plan : Fn := runF 3
    (sSeq (sSet 2 (eCall 2 p_weights_left (aCons (eVar 0) (aCons (eVar 1) aNil))))
    (sRet (eCall 3 p_plan_for (aCons (eCall 1 p_all_questions (aCons (eVar 0) aNil)) (aCons (eVar 2) (aCons eDcn aNil))))))
def p_orders : Fn := runF 3
    (sSeq (sDrop (eCall 1 p_check_things (aCons (eVar 0) aNil)))
    (sSeq (sIf (tE (eBin oGtI (eVar 0) (eC (.int 3)))) (sRaise "TooMany") sNil)
    (sRet (eCB oTuple (aCons (eFz (fComp (iItemsF (eFrzD (eCall 1 p_found_orders (aCons (eVar 0) aNil)))) (gTp 2 (gsCons (gNm 1) (gsCons (gNm 2) gsNil))) (fun _ st => .ok true st) (eTup (aCons (eVar 2) (aCons (eVar 1) aNil))) [1, 2])) aNil)))))
def p_fewest_questions : Fn := runF 3
    (sSeq (sSet 2 (eCall 2 p_weights_left (aCons (eVar 0) (aCons (eVar 1) aNil))))
    (sRet (eCall 3 p_fewest_for (aCons (eCall 1 p_all_questions (aCons (eVar 0) aNil)) (aCons (eVar 2) (aCons eDcn aNil))))))
def p_agreeing : Fn := runF 4
    (sRet (eCB oTuple (aCons (eFz (fComp (iVal (eCall 2 p_found_agreeing (aCons (eVar 0) (aCons (eVar 1) aNil)))) (gTp 2 (gsCons (gNm 2) (gsCons (gNm 3) gsNil))) (fun _ st => .ok true st) (eVar 2) [2, 3])) aNil)))
end Lq
end
section
set_option Elab.async false
set_option linter.all false
set_option maxRecDepth 10000
namespace Lq
open PySem PySem.Spec PyProof.Rows L2
open Sx (at0)
section
variable {env : Ev} {st s : Store} {P : Fl → Store → Prop} {T : PV → Store → Prop} {L : List PV → Store → Prop} {f g h : XE}
theorem ok_dct : Ok (eDct env st) T ↔ T (.own st.length) (st ++ [.dct []]) := ok_ok
theorem ok_dcn : Ok (eDcn env st) T ↔ T (.own st.length) (st ++ [.dcn []]) := ok_ok
theorem ok_dget (H : Ok (f env st) fun d s1 => Ok (g env s1) fun k s2 => ∃ kvs j v, dctOf s2 d = some kvs ∧ keyOf k = some j ∧ dLook kvs k = some v ∧ T v s2) : Ok (eDget f g env st) T := by
  rw [eDget, ok_bind]
  refine H.mono fun d s1 H => ?_
  rw [ok_bind]
  refine H.mono fun k s2 H => ?_
  obtain ⟨kvs, j, v, e1, e2, e3, t⟩ := H
  simp only [e1, e2, e3]
  exact ok_ok.mpr t
theorem ok_dget2 (H : Ok (f env st) fun d s1 => (∃ kvs, dctOf s1 d = some kvs) ∧ Ok (g env s1) fun k s2 => Ok (h env s2) fun x s3 => ∃ kvs j, dctOf s3 d = some kvs ∧ keyOf k = some j ∧ T ((dLook kvs k).getD x) s3) : Ok (eDget2 f g h env st) T := by
  rw [eDget2, ok_bind]
  refine H.mono fun d s1 H => ?_
  obtain ⟨⟨kvs, e⟩, H⟩ := H
  simp only [e]
  rw [ok_bind]
  refine H.mono fun k s2 H => ?_
  rw [ok_bind]
  refine H.mono fun x s3 H => ?_
  obtain ⟨kvs, j, e1, e2, t⟩ := H
  simp only [e1, e2]
  exact ok_ok.mpr t
theorem ok_dput (H : Ok (h env st) fun v s1 => Ok (f env s1) fun d s2 => Ok (g env s2) fun k s3 => ∃ n kvs j, d = .own n ∧ s3[n]? = some (.dct kvs) ∧ keyOf k = some j ∧ kvs.length < sizeLine ∧ P (.nx env) (s3.set n (.dct (dPut kvs k v)))) : Ok (sDput f g h env st) P := by
  rw [sDput, ok_bind]
  refine H.mono fun v s1 H => ?_
  rw [ok_bind]
  refine H.mono fun d s2 H => ?_
  rw [ok_bind]
  refine H.mono fun k s3 H => ?_
  obtain ⟨n, kvs, j, rfl, e1, e2, e3, t⟩ := H
  simp only [e1, e2, if_pos e3]
  exact ok_ok.mpr t
theorem ok_sortKI (H : Ok (f env st) fun d s => ∃ kvs ns, dctOf s d = some kvs ∧ kvs.length < 64 ∧ asInts (kvs.map (·.1)) = some ns ∧ L ((srtI ns).map PV.int) s) : Ok (fSortK f env st) L := by
  rw [fSortK, ok_bind]
  refine H.mono fun d s H => ?_
  obtain ⟨kvs, ns, e1, e2, e3, t⟩ := H
  simp only [e1, if_pos e2, e3]
  exact ok_ok.mpr t
theorem ok_sortKS (H : Ok (f env st) fun d s => ∃ kvs zs, dctOf s d = some kvs ∧ kvs.length < 64 ∧ asInts (kvs.map (·.1)) = none ∧ strsOf (kvs.map (·.1)) = some zs ∧ okAns zs = true ∧ L ((srtS zs).map PV.str) s) : Ok (fSortK f env st) L := by
  rw [fSortK, ok_bind]
  refine H.mono fun d s H => ?_
  obtain ⟨kvs, zs, e1, e2, e3, e4, e5, t⟩ := H
  simp only [e1, if_pos e2, e3, e4, if_pos e5]
  exact ok_ok.mpr t
theorem ok_nget (H : Ok (f env st) fun d s1 => Ok (g env s1) fun k s2 => ∃ kvs j v, dcnOf s2 d = some kvs ∧ nkD k = some j ∧ dLook kvs k = some v ∧ T v s2) : Ok (eNget f g env st) T := by
  rw [eNget, ok_bind]
  refine H.mono fun d s1 H => ?_
  rw [ok_bind]
  refine H.mono fun k s2 H => ?_
  obtain ⟨kvs, j, v, e1, e2, e3, t⟩ := H
  simp only [e1, e2, e3]
  exact ok_ok.mpr t
theorem ok_subN {p : PV} {E : Ev → Store → Prop} (H : Ok (f env st) fun d s2 => Ok (g env s2) fun k s3 => ∃ n kvs j, d = .own n ∧ s3[n]? = some (.dcn kvs) ∧ nkD k = some j ∧ kvs.length < sizeLine ∧ E env (s3.set n (.dcn (dPut kvs k p)))) : Ok (gSubN f g p env st) E := by
  rw [gSubN, ok_bind]
  refine H.mono fun d s2 H => ?_
  rw [ok_bind]
  refine H.mono fun k s3 H => ?_
  obtain ⟨n, kvs, j, rfl, e1, e2, e3, t⟩ := H
  simp only [e1, e2, if_pos e3]
  exact ok_ok.mpr t
theorem ok_frzN (H : Ok (f env st) fun d s => ∃ n kvs, d = .own n ∧ s[n]? = some (.dcn kvs) ∧ T (.own n) (s.set n (.dnf kvs))) : Ok (eFrzD f env st) T := by
  rw [eFrzD, ok_bind]
  refine H.mono fun d s H => ?_
  obtain ⟨n, kvs, rfl, e, t⟩ := H
  simp only [e]
  exact ok_ok.mpr t
theorem ok_items (H : Ok (f env st) fun d s => ∃ kvs, dnfOf s d = some kvs ∧ L (kvs.map fun z => .tup [z.1, z.2]) s) : Ok (iItemsF f env st) L := by
  rw [iItemsF, ok_bind]
  refine H.mono fun d s H => ?_
  obtain ⟨kvs, e, t⟩ := H
  simp only [e]
  exact ok_ok.mpr t
end
theorem own_new (st : Store) (c : Cell) : (st ++ [c])[st.length]? = some c := by simp
theorem dctOf_own {s : Store} {n : Nat} {kvs : List (PV × PV)} (h : s[n]? = some (.dct kvs)) : dctOf s (.own n) = some kvs := by simp only [dctOf, h]
theorem dcnOf_own {s : Store} {n : Nat} {kvs : List (PV × PV)} (h : s[n]? = some (.dcn kvs)) : dcnOf s (.own n) = some kvs := by simp only [dcnOf, h]
theorem dnfOf_own {s : Store} {n : Nat} {kvs : List (PV × PV)} (h : s[n]? = some (.dnf kvs)) : dnfOf s (.own n) = some kvs := by simp only [dnfOf, h]
abbrev Lo := List Nat
def sameG (lt : Lo → Lo → Bool) (a b : Lo) : Bool := !lt a b && !lt b a
def hdG (g : List Lo) : Lo := g.headD []
def addG (lt : Lo → Lo → Bool) : List (List Lo) → Lo → List (List Lo)
  | [], l => [[l]]
  | g :: r, l => if sameG lt (hdG g) l = true then (g ++ [l]) :: r else g :: addG lt r l
def grpG (lt : Lo → Lo → Bool) (ls : List Lo) : List (List Lo) := ls.foldl (addG lt) []
def insG (lt : Lo → Lo → Bool) (g : List Lo) : List (List Lo) → List (List Lo)
  | [] => [g]
  | y :: r => if lt (hdG y) (hdG g) = true then y :: insG lt g r else g :: y :: r
def srtG (lt : Lo → Lo → Bool) : List (List Lo) → List (List Lo)
  | [] => []
  | g :: r => insG lt g (srtG lt r)
def ordG (lt : Lo → Lo → Bool) (ls : List Lo) : List (List Lo) := srtG lt (grpG lt ls)
def ltW (w : List Int) (a b : Lo) : Bool := decide (lw w a < lw w b)
def ordL (k : Nat) (w : List Int) : List (List Lo) := ordG (ltW w) (lotsL k)
def rankV (g : List Lo) : PV := .tup (g.map lotV)
def ordV (o : List (List Lo)) : PV := .tup (o.map rankV)
theorem insG_perm (lt : Lo → Lo → Bool) (g : List Lo) : ∀ l, (insG lt g l).Perm (g :: l)
  | [] => List.Perm.refl _
  | y :: r => by
    rw [insG]
    split
    · exact ((insG_perm lt g r).cons y).trans (List.Perm.swap g y r)
    · exact List.Perm.refl _
theorem srtG_perm (lt : Lo → Lo → Bool) : ∀ l, (srtG lt l).Perm l
  | [] => List.Perm.refl _
  | x :: xs => (insG_perm lt x _).trans ((srtG_perm lt xs).cons x)
def OnG (S : Lo → Prop) (gs : List (List Lo)) : Prop := ∀ g, g ∈ gs → g ≠ [] ∧ ∀ l, l ∈ g → S l
theorem onG_add {S : Lo → Prop} {lt : Lo → Lo → Bool} {l : Lo} (hl : S l) : ∀ {gs : List (List Lo)}, OnG S gs → OnG S (addG lt gs l)
  | [], _, g, hg => by
    simp [addG] at hg
    subst hg
    exact ⟨by simp, fun x hx => by simp at hx; subst hx; exact hl⟩
  | h :: r, H, g, hg => by
    rw [addG] at hg
    split at hg
    · rcases List.mem_cons.mp hg with e | e
      · subst e
        refine ⟨by simp, fun x hx => ?_⟩
        rcases List.mem_append.mp hx with hx | hx
        · exact (H h List.mem_cons_self).2 x hx
        · simp at hx; subst hx; exact hl
      · exact H g (List.mem_cons_of_mem _ e)
    · rcases List.mem_cons.mp hg with e | e
      · subst e; exact H g List.mem_cons_self
      · exact onG_add hl (gs := r) (fun z hz => H z (List.mem_cons_of_mem _ hz)) g e
theorem fold_on {S : Lo → Prop} {lt : Lo → Lo → Bool} : ∀ (ls : List Lo) (gs : List (List Lo)), (∀ l, l ∈ ls → S l) → OnG S gs → OnG S (ls.foldl (addG lt) gs)
  | [], gs, _, H => H
  | l :: r, gs, hl, H => fold_on r _ (fun x hx => hl x (List.mem_cons_of_mem _ hx)) (onG_add (hl l List.mem_cons_self) H)
def grpD (f : Lo → Int) (V : List Lo → PV) (gs : List (List Lo)) : List (PV × PV) := gs.map fun g => (.int (f (hdG g)), V g)
def ltF (f : Lo → Int) (a b : Lo) : Bool := decide (f a < f b)
theorem same_iff {f : Lo → Int} {a b : Lo} : sameG (ltF f) a b = decide (f a = f b) := by
  unfold sameG ltF
  by_cases h : f a = f b
  · simp [h]
  · have : f a < f b ∨ f b < f a := by omega
    rcases this with z | z <;> simp [z, h]
def Apart (f : Lo → Int) (gs : List (List Lo)) : Prop := (gs.map fun g => f (hdG g)).Nodup
theorem add_hds {f : Lo → Int} {l : Lo} : ∀ {gs : List (List Lo)}, (∀ g, g ∈ gs → g ≠ []) → (addG (ltF f) gs l).map (fun g => f (hdG g)) = if f l ∈ gs.map (fun g => f (hdG g)) then gs.map (fun g => f (hdG g)) else gs.map (fun g => f (hdG g)) ++ [f l]
  | [], _ => by simp [addG, hdG]
  | g :: r, hne => by
    rw [addG, same_iff]
    by_cases h : f (hdG g) = f l
    · rw [decide_eq_true h, if_pos rfl]
      have e : hdG (g ++ [l]) = hdG g := by
        cases g with
        | nil => exact absurd rfl (hne [] List.mem_cons_self)
        | cons a r => rfl
      rw [List.map_cons, List.map_cons, e, if_pos (by rw [h]; exact List.mem_cons_self)]
    · rw [decide_eq_false h, if_neg Bool.false_ne_true, List.map_cons, List.map_cons, add_hds (gs := r) fun x hx => hne x (List.mem_cons_of_mem _ hx)]
      have : f l ∈ f (hdG g) :: r.map (fun g => f (hdG g)) ↔ f l ∈ r.map (fun g => f (hdG g)) := by
        rw [List.mem_cons]
        exact ⟨fun z => z.elim (fun z => absurd z.symm h) id, .inr⟩
      simp only [this]
      split <;> simp
theorem apart_add {f : Lo → Int} {l : Lo} {gs : List (List Lo)} (hne : ∀ g, g ∈ gs → g ≠ []) (h : Apart f gs) : Apart f (addG (ltF f) gs l) := by
  unfold Apart at h ⊢
  rw [add_hds hne]
  split
  · exact h
  · rename_i hn
    rw [List.nodup_append]
    exact ⟨h, by simp, fun a ha b hb => by simp at hb; subst hb; exact fun z => hn (by rw [← z]; exact ha)⟩
theorem grp_look {f : Lo → Int} {V : List Lo → PV} {g : List Lo} : ∀ {gs : List (List Lo)}, Apart f gs → g ∈ gs → dLook (grpD f V gs) (.int (f (hdG g))) = some (V g)
  | h :: r, ap, hg => by
    unfold Apart at ap
    rw [List.map_cons, List.nodup_cons] at ap
    unfold dLook grpD
    rw [List.map_cons, List.find?_cons]
    rcases List.mem_cons.mp hg with e | e
    · subst e; simp [peq]
    · have hne : ¬ f (hdG h) = f (hdG g) := fun z => ap.1 (by rw [z]; exact List.mem_map.mpr ⟨g, e, rfl⟩)
      have : peq (PV.int (f (hdG h))) (PV.int (f (hdG g))) = false := by simp [peq, hne]
      simp only [this]
      exact grp_look (V := V) ap.2 e
theorem grp_none {f : Lo → Int} {V : List Lo → PV} {x : Int} : ∀ {gs : List (List Lo)}, x ∉ gs.map (fun g => f (hdG g)) → dLook (grpD f V gs) (.int x) = none ∧ ((grpD f V gs).any fun kv => peq kv.1 (.int x)) = false
  | [], _ => ⟨rfl, rfl⟩
  | h :: r, hn => by
    rw [List.map_cons, List.mem_cons, not_or] at hn
    obtain ⟨i1, i2⟩ := grp_none (V := V) (gs := r) hn.2
    have : peq (PV.int (f (hdG h))) (PV.int x) = false := by simp [peq]; exact fun z => hn.1 z.symm
    unfold grpD at i1 i2 ⊢
    unfold dLook at i1 ⊢
    rw [List.map_cons, List.find?_cons, List.any_cons]
    simp only [this]
    exact ⟨i1, by rw [Bool.false_or]; exact i2⟩
theorem grp_put {f : Lo → Int} {V : List Lo → PV} {l : Lo} : ∀ {gs : List (List Lo)}, (∀ g, g ∈ gs → g ≠ []) → Apart f gs → ∀ x : PV, (∀ g, g ∈ gs → f (hdG g) = f l → x = V (g ++ [l])) → (f l ∉ gs.map (fun g => f (hdG g)) → x = V [l]) →
    dPut (grpD f V gs) (.int (f l)) x = grpD f V (addG (ltF f) gs l)
  | gs, hne, ap, x, h1, h2 => by
    by_cases hm : f l ∈ gs.map (fun g => f (hdG g))
    · have key : ∀ (gs : List (List Lo)), (∀ g, g ∈ gs → g ≠ []) → Apart f gs → (∀ g, g ∈ gs → f (hdG g) = f l → x = V (g ++ [l])) → f l ∈ gs.map (fun g => f (hdG g)) →
          ((grpD f V gs).any fun kv => peq kv.1 (.int (f l))) = true ∧ (grpD f V gs).map (fun kv => if peq kv.1 (.int (f l)) = true then (kv.1, x) else kv) = grpD f V (addG (ltF f) gs l) := by
        intro gs
        induction gs with
        | nil => intro _ _ _ hm; simp at hm
        | cons g r ih =>
          intro hne ap h1 hm
          unfold Apart at ap
          rw [List.map_cons, List.nodup_cons] at ap
          rw [addG, same_iff]
          by_cases h : f (hdG g) = f l
          · have ex : x = V (g ++ [l]) := h1 g List.mem_cons_self h
            have hd : hdG (g ++ [l]) = hdG g := by
              cases g with
              | nil => exact absurd rfl (hne [] List.mem_cons_self)
              | cons a r => rfl
            have nr : f l ∉ r.map (fun g => f (hdG g)) := by rw [← h]; exact ap.1
            have rest : (grpD f V r).map (fun kv => if peq kv.1 (.int (f l)) = true then (kv.1, x) else kv) = grpD f V r := by
              conv => rhs; rw [← List.map_id (grpD f V r)]
              refine List.map_congr_left fun kv hkv => ?_
              obtain ⟨g', hg', rfl⟩ := List.mem_map.mp hkv
              have : ¬ f (hdG g') = f l := fun z => nr (by rw [← z]; exact List.mem_map.mpr ⟨g', hg', rfl⟩)
              simp [peq, this]
            rw [decide_eq_true h, if_pos rfl]
            unfold grpD at rest ⊢
            rw [List.map_cons, List.any_cons, List.map_cons, List.map_cons, rest, hd]
            simp [peq, h, ex]
          · have hm' : f l ∈ r.map (fun g => f (hdG g)) := by
              rw [List.map_cons, List.mem_cons] at hm
              exact hm.elim (fun z => absurd z.symm h) id
            obtain ⟨i1, i2⟩ := ih (fun z hz => hne z (List.mem_cons_of_mem _ hz)) ap.2 (fun z hz => h1 z (List.mem_cons_of_mem _ hz)) hm'
            rw [decide_eq_false h, if_neg Bool.false_ne_true]
            have pf : peq (PV.int (f (hdG g))) (PV.int (f l)) = false := by simp [peq, h]
            unfold grpD at i1 i2 ⊢
            rw [List.map_cons, List.any_cons, List.map_cons, List.map_cons, i1, i2]
            simp [pf]
      obtain ⟨k1, k2⟩ := key gs hne ap h1 hm
      unfold dPut
      rw [if_pos k1, k2]
    · obtain ⟨_, k2⟩ := grp_none (V := V) hm
      unfold dPut
      rw [if_neg (by rw [k2]; exact Bool.false_ne_true), h2 hm]
      have : ∀ (gs : List (List Lo)), f l ∉ gs.map (fun g => f (hdG g)) → addG (ltF f) gs l = gs ++ [[l]] := by
        intro gs
        induction gs with
        | nil => intro _; rfl
        | cons g r ih =>
          intro hm
          rw [List.map_cons, List.mem_cons, not_or] at hm
          rw [addG, same_iff, decide_eq_false (fun z => hm.1 z.symm), if_neg Bool.false_ne_true, ih hm.2]; rfl
      rw [this gs hm]
      unfold grpD
      rw [List.map_append]
      rfl
theorem srt_keys (f : Lo → Int) : ∀ gs : List (List Lo), srtI (gs.map fun g => f (hdG g)) = (srtG (ltF f) gs).map fun g => f (hdG g)
  | [] => rfl
  | g :: r => by
    have ins : ∀ l : List (List Lo), insI (f (hdG g)) (l.map fun g => f (hdG g)) = (insG (ltF f) g l).map fun g => f (hdG g) := by
      intro l
      induction l with
      | nil => rfl
      | cons y l ih =>
        rw [List.map_cons, insI, insG]
        unfold ltF
        by_cases h : f (hdG y) < f (hdG g)
        · rw [if_pos h, decide_eq_true h, if_pos rfl, List.map_cons, ih]; rfl
        · rw [if_neg h, decide_eq_false h, if_neg Bool.false_ne_true]; rfl
    rw [List.map_cons, srtI, srt_keys f r, ins, srtG]
end Lq
end
section
set_option Elab.async false
set_option linter.all false
set_option maxRecDepth 10000
namespace Lq
open PySem PySem.Spec PyProof.Rows L2
open Sx (at0)
theorem e_al : p_all_lots = p__law_lots := rfl
theorem grp_ne (lt : Lo → Lo → Bool) (ls : List Lo) : ∀ g, g ∈ grpG lt ls → g ≠ [] := fun g hg => (fold_on (S := fun _ => True) ls [] (fun _ _ => trivial) (fun g hg => nomatch hg) g hg).1
theorem grp_snoc (lt : Lo → Lo → Bool) (ls : List Lo) (l : Lo) : grpG lt (ls ++ [l]) = addG lt (grpG lt ls) l := by unfold grpG; rw [List.foldl_append]; rfl
theorem grp_apart (f : Lo → Int) (ls : List Lo) : Apart f (grpG (ltF f) ls) := by
  unfold grpG
  have key : ∀ (ls : List Lo) (gs : List (List Lo)), (∀ g, g ∈ gs → g ≠ []) → Apart f gs → Apart f (ls.foldl (addG (ltF f)) gs) := by
    intro ls
    induction ls with
    | nil => intro gs _ h; exact h
    | cons l r ih =>
      intro gs hne h
      rw [List.foldl_cons]
      refine ih _ (fun g hg => ?_) (apart_add hne h)
      exact (onG_add (S := fun _ => True) (l := l) trivial (fun g hg => ⟨hne g hg, fun _ _ => trivial⟩) g hg).1
  exact key ls [] (fun g hg => nomatch hg) (by simp [Apart])
theorem grp_len (lt : Lo → Lo → Bool) (ls : List Lo) : (grpG lt ls).length ≤ ls.length := by
  unfold grpG
  have add : ∀ (gs : List (List Lo)) (l : Lo), (addG lt gs l).length ≤ gs.length + 1 := by
    intro gs l
    induction gs with
    | nil => simp [addG]
    | cons g r ih =>
      rw [addG]
      split <;> simp; omega
  have key : ∀ (ls : List Lo) (gs : List (List Lo)), (ls.foldl (addG lt) gs).length ≤ gs.length + ls.length := by
    intro ls
    induction ls with
    | nil => intro gs; simp
    | cons l r ih =>
      intro gs
      rw [List.foldl_cons]
      have := ih (addG lt gs l)
      have := add gs l
      simp; omega
  simpa using key ls []
theorem grp_glen (lt : Lo → Lo → Bool) (ls : List Lo) : ∀ g, g ∈ grpG lt ls → g.length ≤ ls.length := by
  unfold grpG
  have add : ∀ (l : Lo) (gs : List (List Lo)) (m : Nat), (∀ g, g ∈ gs → g.length ≤ m) → ∀ g, g ∈ addG lt gs l → g.length ≤ m + 1 := by
    intro l gs m h g hg
    induction gs with
    | nil => simp [addG] at hg; subst hg; simp
    | cons x r ih =>
      rw [addG] at hg
      split at hg
      · rcases List.mem_cons.mp hg with e | e
        · subst e
          have := h x List.mem_cons_self
          simp; omega
        · have := h g (List.mem_cons_of_mem _ e); omega
      · rcases List.mem_cons.mp hg with e | e
        · subst e; have := h g List.mem_cons_self; omega
        · exact ih (fun z hz => h z (List.mem_cons_of_mem _ hz)) e
  have key : ∀ (ls : List Lo) (gs : List (List Lo)) (m : Nat), (∀ g, g ∈ gs → g.length ≤ m) → ∀ g, g ∈ ls.foldl (addG lt) gs → g.length ≤ m + ls.length := by
    intro ls
    induction ls with
    | nil => intro gs m h g hg; exact h g hg
    | cons l r ih =>
      intro gs m h g hg
      rw [List.foldl_cons] at hg
      have := ih (addG lt gs l) (m + 1) (add l gs m h) g hg
      simp; omega
  intro g hg
  simpa using key ls [] 0 (fun g hg => nomatch hg) g hg
theorem apart_inj {f : Lo → Int} {g g' : List Lo} : ∀ {gs : List (List Lo)}, Apart f gs → g ∈ gs → g' ∈ gs → f (hdG g) = f (hdG g') → g = g'
  | x :: r, ap, hg, hg', e => by
    unfold Apart at ap
    rw [List.map_cons, List.nodup_cons] at ap
    rcases List.mem_cons.mp hg with a | a <;> rcases List.mem_cons.mp hg' with b | b
    · rw [a, b]
    · subst a; exact absurd (by rw [e]; exact List.mem_map.mpr ⟨g', b, rfl⟩) ap.1
    · subst b; exact absurd (by rw [← e]; exact List.mem_map.mpr ⟨g, a, rfl⟩) ap.1
    · exact apart_inj ap.2 a b e
theorem grp_step {f : Lo → Int} {V : List Lo → PV} {ls : List Lo} {l : Lo} {e u : PV} {s : Store} (h0 : oAdd e u s = some (V [l])) (h1 : ∀ g : List Lo, g.length ≤ ls.length → oAdd (V g) u s = some (V (g ++ [l]))) :
    ∃ y, oAdd ((dLook (grpD f V (grpG (ltF f) ls)) (.int (f l))).getD e) u s = some y ∧ dPut (grpD f V (grpG (ltF f) ls)) (.int (f l)) y = grpD f V (grpG (ltF f) (ls ++ [l])) := by
  have ne := grp_ne (ltF f) ls
  have ap := grp_apart f ls
  rw [grp_snoc]
  by_cases hm : f l ∈ (grpG (ltF f) ls).map (fun g => f (hdG g))
  · obtain ⟨g, hg, eg⟩ := List.mem_map.mp hm
    have lk := grp_look (V := V) ap hg
    rw [eg] at lk
    rw [lk]
    refine ⟨V (g ++ [l]), h1 g (grp_glen _ _ g hg), grp_put ne ap _ (fun g' hg' e' => ?_) (fun hn => absurd hm hn)⟩
    rw [apart_inj ap hg' hg (by rw [e', eg])]
  · rw [(grp_none (V := V) hm).1]
    exact ⟨V [l], h0, grp_put ne ap _ (fun g' hg' e' => absurd (List.mem_map.mpr ⟨g', hg', e'⟩) hm) (fun _ => rfl)⟩
def IvG (st : Store) (f : Lo → Int) (V : List Lo → PV) (ls : List Lo) (s : Store) : Prop := s[st.length]? = some (.dct (grpD f V (grpG (ltF f) ls))) ∧ Keeps [] st s
theorem IvG.new {st : Store} {f : Lo → Int} {V : List Lo → PV} : IvG st f V [] (st ++ [.dct []]) := ⟨by rw [own_new]; rfl, Keeps.app _ _ _⟩
theorem IvG.put {st s : Store} {f : Lo → Int} {V : List Lo → PV} {ls : List Lo} {l : Lo} {y : PV} (h : IvG st f V ls s) (e : dPut (grpD f V (grpG (ltF f) ls)) (.int (f l)) y = grpD f V (grpG (ltF f) (ls ++ [l]))) :
    IvG st f V (ls ++ [l]) (s.set st.length (.dct (dPut (grpD f V (grpG (ltF f) ls)) (.int (f l)) y))) :=
  ⟨by rw [st_set h.1, if_pos rfl, e], h.2.set (.inl (Nat.le_refl _)) _⟩
theorem grpD_len (f : Lo → Int) (V : List Lo → PV) (ls : List Lo) : (grpD f V (grpG (ltF f) ls)).length ≤ ls.length := by
  unfold grpD; rw [List.length_map]; exact grp_len _ _
theorem grpD_keys (f : Lo → Int) (V : List Lo → PV) (gs : List (List Lo)) : asInts ((grpD f V gs).map (·.1)) = some (gs.map fun g => f (hdG g)) := by
  unfold grpD
  rw [List.map_map]
  have : (gs.map ((fun x => x.1) ∘ fun g => (PV.int (f (hdG g)), V g))) = nI (gs.map fun g => f (hdG g)) := by show _ = (gs.map fun g => f (hdG g)).map PV.int; rw [List.map_map]; rfl
  rw [this, asInts_nI]
theorem tI_len {w : List Int} (s : Store) : oLen [tI w] s = some (.int (w.length : Int)) := by simp [oLen, tI, asS]
theorem add_rank {g : List Lo} {l : Lo} (s : Store) (h : g.length ≤ 32) : oAdd (rankV g) (.tup [lotV l]) s = some (rankV (g ++ [l])) := by
  have sz := szl
  unfold rankV
  simp only [oAdd, oOr, oAddI, oI, oAddT, List.length_map, List.length_cons, List.length_nil]
  rw [if_pos (by omega)]
  simp
theorem walk_ok {st s : Store} {f : Lo → Int} {V : List Lo → PV} {ls : List Lo} {env : Ev} {j : Nat} {fe : XE} {W : List Lo → PV} {L : List PV → Store → Prop} (h : IvG st f V ls s)
    (he : ∀ g, g ∈ grpG (ltF f) ls → Ok (fe (env.set j (some (.int (f (hdG g))))) s) fun v s2 => v = W g ∧ s2 = s) (k : L ((ordG (ltF f) ls).map W) s) :
    Ok (compV (gNm j) (fun _ st => .ok true st) fe env ((srtI ((grpG (ltF f) ls).map fun g => f (hdG g))).map PV.int) s) L := by
  rw [srt_keys, List.map_map]
  refine ok_mapE (fun g => PV.int (f (hdG g))) W (zs := srtG (ltF f) (grpG (ltF f) ls)) (fun g hg => ?_) k
  rw [ok_gNm]
  exact he g ((srtG_perm _ _).mem_iff.mp hg)
theorem found_order_sp {k : Nat} (h1 : 1 ≤ k) (h5 : k ≤ 5) {w : List Int} (wl : w.length = k) (st : Store) : Ok (p_found_order [tI w] st) fun v s => v = ordV (ordL k w) ∧ Keeps [] st s := by
  have sz := szl
  have ll := lots_len h1 h5
  (unfold p_found_order runF; rw [ok_retF]; simp only [env0, List.map_cons, List.map_nil, List.length_cons, List.length_nil, Nat.reduceAdd, Nat.reduceSub, List.reduceReplicate, List.cons_append, List.nil_append])
  simp only [wkA, List.set_cons_zero, List.set_cons_succ, Option.some.injEq, exists_eq_left', exists_eq_left, List.length_cons, List.length_nil, Nat.reduceAdd, Nat.reduceLeDiff, true_and, and_true, if_true, Bool.not_true, Bool.not_false, Bool.false_eq_true, if_false, decide_eq_true_eq, List.cons.injEq, ↓reduceIte]
  rw [ok_dct]
  rw [nxK_nx]
  simp only [wkA, List.set_cons_zero, List.set_cons_succ, Option.some.injEq, exists_eq_left', exists_eq_left, List.length_cons, List.length_nil, Nat.reduceAdd, Nat.reduceLeDiff, true_and, and_true, if_true, Bool.not_true, Bool.not_false, Bool.false_eq_true, if_false, decide_eq_true_eq, List.cons.injEq, ↓reduceIte]
  refine Op.of (tI_len _) ?_
  rw [wl, e_al, Ok.eq (lots_sp h1 h5 _)]
  refine ⟨_, rfl, ?_⟩
  refine ok_loop (fun i env s => ∃ x2 x3, env = [some (tI w), some (.own st.length), x2, x3] ∧ IvG st (lw w) rankV ((lotsL k).take i) s) _ 0 _ _ (fun i x hx env s hI => ?_)
    ⟨_, _, rfl, IvG.new⟩ fun env s hI => ?_
  · obtain ⟨x2, x3, rfl, hc⟩ := hI
    rw [Nat.zero_add] at hc ⊢
    rw [List.getElem?_map] at hx
    cases el : (lotsL k)[i]? with
    | none => rw [el] at hx; cases hx
    | some l =>
      rw [el] at hx
      cases hx
      have lm := List.mem_of_getElem? el
      have lot := lots_lot h1 h5 l lm
      simp only [wkA, List.set_cons_zero, List.set_cons_succ, Option.some.injEq, exists_eq_left', exists_eq_left, List.length_cons, List.length_nil, Nat.reduceAdd, Nat.reduceLeDiff, true_and, and_true, if_true, Bool.not_true, Bool.not_false, Bool.false_eq_true, if_false, decide_eq_true_eq, List.cons.injEq, ↓reduceIte]
      have fw : p_found_weight [tI w, lotV l] s = .ok (.int (lw w l)) s := fw_sp (fun x hx => by rw [wl]; exact lot.2 x hx) s
      rw [Ok.eq fw]
      rw [nxK_nx]
      refine ok_dput ?_
      simp only [wkA, List.set_cons_zero, List.set_cons_succ, Option.some.injEq, exists_eq_left', exists_eq_left, List.length_cons, List.length_nil, Nat.reduceAdd, Nat.reduceLeDiff, true_and, and_true, if_true, Bool.not_true, Bool.not_false, Bool.false_eq_true, if_false, decide_eq_true_eq, List.cons.injEq, ↓reduceIte]
      refine ok_dget2 ?_
      simp only [wkA, List.set_cons_zero, List.set_cons_succ, Option.some.injEq, exists_eq_left', exists_eq_left, List.length_cons, List.length_nil, Nat.reduceAdd, Nat.reduceLeDiff, true_and, and_true, if_true, Bool.not_true, Bool.not_false, Bool.false_eq_true, if_false, decide_eq_true_eq, List.cons.injEq, ↓reduceIte]
      have il : i < (lotsL k).length := (List.getElem?_eq_some_iff.mp el).1
      have tl : ((lotsL k).take i).length ≤ 32 := by rw [List.length_take]; omega
      have gl := grpD_len (lw w) rankV ((lotsL k).take i)
      refine ⟨⟨_, dctOf_own hc.1⟩, _, _, dctOf_own hc.1, rfl, ?_⟩
      obtain ⟨y, y1, y2⟩ := grp_step (f := lw w) (V := rankV) (ls := (lotsL k).take i) (l := l) (e := .tup []) (u := .tup [lotV l]) (s := s) (add_rank (g := []) s (by simp)) (fun g hg => add_rank s (by omega))
      refine Op.of y1 ⟨_, _, _, rfl, hc.1, rfl, by omega, _, _, ⟨rfl, rfl⟩, ?_⟩
      rw [show (lotsL k).take (i + 1) = (lotsL k).take i ++ [l] by rw [List.take_add_one, el]; rfl]
      exact hc.put y2
  · obtain ⟨x2, x3, rfl, hc⟩ := hI
    rw [Nat.zero_add, List.length_map, List.take_length] at hc
    rw [nxK_nx]
    simp only [wkA, List.set_cons_zero, List.set_cons_succ, Option.some.injEq, exists_eq_left', exists_eq_left, List.length_cons, List.length_nil, Nat.reduceAdd, Nat.reduceLeDiff, true_and, and_true, if_true, Bool.not_true, Bool.not_false, Bool.false_eq_true, if_false, decide_eq_true_eq, List.cons.injEq, ↓reduceIte]
    refine ok_sortKI ?_
    simp only [wkA, List.set_cons_zero, List.set_cons_succ, Option.some.injEq, exists_eq_left', exists_eq_left, List.length_cons, List.length_nil, Nat.reduceAdd, Nat.reduceLeDiff, true_and, and_true, if_true, Bool.not_true, Bool.not_false, Bool.false_eq_true, if_false, decide_eq_true_eq, List.cons.injEq, ↓reduceIte]
    have gl := grpD_len (lw w) rankV (lotsL k)
    refine ⟨_, _, dctOf_own hc.1, by omega, grpD_keys _ _ _, _, rfl, ?_⟩
    refine walk_ok (W := rankV) hc (fun g hg => ?_) ?_
    · simp only [wipeE]
      refine ok_dget ?_
      simp only [wkA, List.set_cons_zero, List.set_cons_succ, Option.some.injEq, exists_eq_left', exists_eq_left, List.length_cons, List.length_nil, Nat.reduceAdd, Nat.reduceLeDiff, true_and, and_true, if_true, Bool.not_true, Bool.not_false, Bool.false_eq_true, if_false, decide_eq_true_eq, List.cons.injEq, ↓reduceIte]
      exact ⟨_, _, _, dctOf_own hc.1, rfl, grp_look (grp_apart _ _) hg, rfl⟩
    · exact Op.of (z := ordV (ordL k w)) rfl ⟨rfl, hc.2⟩
end Lq
end
section
set_option Elab.async false
set_option linter.all false
set_option maxRecDepth 10000
namespace Lq
open PySem PySem.Spec PyProof.Rows L2
open Sx (at0)
theorem peqs_map {α : Type} [DecidableEq α] {F : α → PV} (h : ∀ x y, peq (F x) (F y) = decide (x = y)) : ∀ xs ys : List α, peqs (xs.map F) (ys.map F) = decide (xs = ys)
  | [], [] => by simp [peqs]
  | [], _ :: _ => by simp [peqs]
  | _ :: _, [] => by simp [peqs]
  | x :: xs, y :: ys => by
    rw [List.map_cons, List.map_cons, peqs, h, peqs_map h xs ys]
    by_cases a : x = y <;> by_cases b : xs = ys <;> simp [a, b]
theorem peq_int (i j : Int) : peq (.int i) (.int j) = decide (i = j) := by unfold peq; rfl
theorem peq_lotV (a b : Lo) : peq (lotV a) (lotV b) = decide (a = b) := by
  unfold lotV natsV
  rw [peq]
  exact peqs_map (F := fun n : Nat => PV.int (n : Int)) (fun x y => by rw [peq_int, decide_eq_decide]; omega) a b
theorem peq_rank (a b : List Lo) : peq (rankV a) (rankV b) = decide (a = b) := by
  unfold rankV
  rw [peq]
  exact peqs_map peq_lotV a b
theorem peq_ord (a b : List (List Lo)) : peq (ordV a) (ordV b) = decide (a = b) := by
  unfold ordV
  rw [peq]
  exact peqs_map peq_rank a b
theorem peq_tI (a b : List Int) : peq (tI a) (tI b) = decide (a = b) := by
  unfold tI
  rw [peq]
  exact peqs_map peq_int a b
theorem nks_map {α : Type} {F : α → PV} {n : Nat} (h : ∀ x, ∃ k, nkOf (F x) = some k ∧ k.depth ≤ n) : ∀ xs : List α, ∃ ks, nksOf (xs.map F) = some ks ∧ NestedKey.depthAll ks ≤ n
  | [] => ⟨[], by rw [List.map_nil, nksOf], by simp [NestedKey.depthAll]⟩
  | x :: xs => by
    obtain ⟨k, e, d⟩ := h x
    obtain ⟨ks, e', d'⟩ := nks_map h xs
    refine ⟨k :: ks, by rw [List.map_cons, nksOf, e, e'], ?_⟩
    rw [NestedKey.depthAll]
    exact Nat.max_le.mpr ⟨d, d'⟩
theorem nk_tupM {α : Type} {F : α → PV} {n : Nat} (h : ∀ x, ∃ k, nkOf (F x) = some k ∧ k.depth ≤ n) (xs : List α) : ∃ k, nkOf (.tup (xs.map F)) = some k ∧ k.depth ≤ n + 1 := by
  obtain ⟨ks, e, d⟩ := nks_map h xs
  refine ⟨.tup ks, by rw [nkOf, e]; rfl, ?_⟩
  rw [NestedKey.depth]
  omega
theorem nk_int (i : Int) : ∃ k, nkOf (.int i) = some k ∧ k.depth ≤ 0 := ⟨.num i, by rw [nkOf], by simp [NestedKey.depth]⟩
theorem nk_lot (l : Lo) : ∃ k, nkOf (lotV l) = some k ∧ k.depth ≤ 1 := nk_tupM (F := fun n : Nat => PV.int (n : Int)) (fun x => nk_int _) l
theorem nk_rank (g : List Lo) : ∃ k, nkOf (rankV g) = some k ∧ k.depth ≤ 2 := nk_tupM nk_lot g
theorem nk_ord (o : List (List Lo)) : ∃ k, nkD (ordV o) = some k := by
  obtain ⟨k, e, d⟩ := nk_tupM nk_rank o
  refine ⟨k, ?_⟩
  unfold nkD ordV
  simp only [e]
  rw [if_pos (by omega)]
theorem nk_tI (w : List Int) : ∃ k, nkOf (tI w) = some k ∧ k.depth ≤ 1 := nk_tupM nk_int w
theorem nk_some (ws : List (List Int)) : ∃ k, nkD (.tup (ws.map tI)) = some k := by
  obtain ⟨k, e, d⟩ := nk_tupM nk_tI ws
  refine ⟨k, ?_⟩
  unfold nkD
  simp only [e]
  rw [if_pos (by omega)]
theorem dOks_mp {α : Type} {F : α → PV} {n : Nat} (h : ∀ x, dOk n (F x) = true) : ∀ xs : List α, dOks n (xs.map F) = true
  | [] => by simp [dOks]
  | x :: xs => by rw [List.map_cons, dOks, h x, dOks_mp h xs]; rfl
theorem noScrs_mp {α : Type} {F : α → PV} (h : ∀ x, noScr (F x) = true) : ∀ xs : List α, noScrs (xs.map F) = true
  | [] => by simp [noScrs]
  | x :: xs => by rw [List.map_cons, noScrs, h x, noScrs_mp h xs]; rfl
theorem pl_tupM {α : Type} {F : α → PV} (h : ∀ x, dOk 59 (F x) = true ∧ noScr (F x) = true) (xs : List α) : Pl (.tup (xs.map F)) :=
  ⟨by unfold dChk; rw [dOk, noScr, dOks_mp (fun x => (h x).1), noScrs_mp (fun x => (h x).2)]; rfl, fun _ => rfl⟩
theorem dOk_rank (m : Nat) (g : List Lo) : dOk (m + 2) (rankV g) = true ∧ noScr (rankV g) = true := by
  unfold rankV
  rw [dOk, noScr]
  exact ⟨dOks_mp (fun l => dOk_lot m l) g, noScrs_mp noScr_lot g⟩
theorem dOk_ord (m : Nat) (o : List (List Lo)) : dOk (m + 3) (ordV o) = true ∧ noScr (ordV o) = true := by
  unfold ordV
  rw [dOk, noScr]
  exact ⟨dOks_mp (fun g => (dOk_rank m g).1) o, noScrs_mp (fun g => (dOk_rank 0 g).2) o⟩
theorem dOk_tI (m : Nat) (w : List Int) : dOk (m + 1) (tI w) = true ∧ noScr (tI w) = true := by
  unfold tI
  rw [dOk, noScr]
  exact ⟨dOks_mp (F := PV.int) (fun i => by simp [dOk]) w, noScrs_mp (F := PV.int) (fun i => rfl) w⟩
abbrev En := List (List Lo) × List Int
def stepO (k : Nat) (d : List En) (w : List Int) : List En := if (d.any fun e => decide (e.1 = ordL k w)) = true then d else d ++ [(ordL k w, w)]
theorem stepO_old {k : Nat} {d : List En} {w : List Int} (h : (d.any fun e => decide (e.1 = ordL k w)) = true) : stepO k d w = d := by unfold stepO; rw [if_pos h]
theorem stepO_new {k : Nat} {d : List En} {w : List Int} (h : (d.any fun e => decide (e.1 = ordL k w)) = false) : stepO k d w = d ++ [(ordL k w, w)] := by unfold stepO; rw [if_neg (by rw [h]; exact Bool.false_ne_true)]
def entsL (k : Nat) : List En := (srtR (rowsL 4 k)).foldl (stepO k) []
def entV (e : En) : PV × PV := (ordV e.1, tI e.2)
theorem ent_look (o : List (List Lo)) : ∀ d : List En, (dLook (d.map entV) (ordV o)).isSome = d.any fun e => decide (e.1 = o)
  | [] => rfl
  | e :: r => by
    have ih := ent_look o r
    unfold dLook at ih ⊢
    rw [List.map_cons, List.find?_cons, List.any_cons]
    have : peq (entV e).1 (ordV o) = decide (e.1 = o) := peq_ord _ _
    rw [this]
    by_cases h : e.1 = o
    · simp [h]
    · simp only [decide_eq_false h, Bool.false_or]; exact ih
theorem ent_put {o : List (List Lo)} {w : List Int} {d : List En} (h : (d.any fun e => decide (e.1 = o)) = false) : dPut (d.map entV) (ordV o) (tI w) = (d ++ [(o, w)]).map entV := by
  have e : ((d.map entV).any fun kv => peq kv.1 (ordV o)) = d.any fun e => decide (e.1 = o) := by
    rw [List.any_map]
    congr 1
    funext x
    exact peq_ord _ _
  unfold dPut
  rw [e, h, if_neg Bool.false_ne_true, List.map_append]
  rfl
def IvN (st : Store) (kvs : List (PV × PV)) (s : Store) : Prop := s[st.length]? = some (.dcn kvs) ∧ Keeps [] st s
theorem IvN.keep {st s s' : Store} {kvs : List (PV × PV)} (h : IvN st kvs s) (k : Keeps [] s s') : IvN st kvs s' := ⟨keeps_get k h.1 (by simp), h.2.trans k⟩
theorem step_len (k : Nat) : ∀ (ws : List (List Int)) (d : List En), (ws.foldl (stepO k) d).length ≤ d.length + ws.length
  | [], d => by simp
  | w :: r, d => by
    rw [List.foldl_cons]
    have h1 := step_len k r (stepO k d w)
    have h2 : (stepO k d w).length ≤ d.length + 1 := by unfold stepO; split <;> simp
    simp; omega
theorem small_len {k : Nat} (h1 : 1 ≤ k) (h3 : k ≤ 3) : (srtR (rowsL 4 k)).length ≤ 64 := by
  have : k = 1 ∨ k = 2 ∨ k = 3 := by omega
  rcases this with rfl | rfl | rfl <;> decide +kernel
theorem found_orders_sp {k : Nat} (h1 : 1 ≤ k) (h3 : k ≤ 3) (st : Store) : Ok (p_found_orders [.int (k : Int)] st) fun v s => v = .own st.length ∧ IvN st ((entsL k).map entV) s := by
  have sz := szl
  have sl := small_len h1 h3
  (unfold p_found_orders runF; rw [ok_retF]; simp only [env0, List.map_cons, List.map_nil, List.length_cons, List.length_nil, Nat.reduceAdd, Nat.reduceSub, List.reduceReplicate, List.cons_append, List.nil_append])
  simp only [wkA, List.set_cons_zero, List.set_cons_succ, Option.some.injEq, exists_eq_left', exists_eq_left, List.length_cons, List.length_nil, Nat.reduceAdd, Nat.reduceLeDiff, true_and, and_true, if_true, Bool.not_true, Bool.not_false, Bool.false_eq_true, if_false, decide_eq_true_eq, List.cons.injEq, ↓reduceIte]
  rw [ok_dcn]
  rw [nxK_nx]
  simp only [wkA, List.set_cons_zero, List.set_cons_succ, Option.some.injEq, exists_eq_left', exists_eq_left, List.length_cons, List.length_nil, Nat.reduceAdd, Nat.reduceLeDiff, true_and, and_true, if_true, Bool.not_true, Bool.not_false, Bool.false_eq_true, if_false, decide_eq_true_eq, List.cons.injEq, ↓reduceIte]
  have sw : ∀ s, p_small_weights [.int (k : Int), .int 4] s = .ok (.lst ((srtR (rowsL 4 k)).map tI)) s := fun s => small_weights_sp (m := 4) h1 (by omega) (by decide) (by decide) s
  rw [Ok.eq (sw _)]
  refine ⟨_, rfl, ?_⟩
  refine ok_loop (fun i env s => ∃ x2 x3, env = [some (.int (k : Int)), some (.own st.length), x2, x3] ∧ IvN st ((((srtR (rowsL 4 k)).take i).foldl (stepO k) []).map entV) s) _ 0 _ _ (fun i x hx env s hI => ?_)
    ⟨_, _, rfl, ⟨by rw [own_new]; rfl, Keeps.app _ _ _⟩⟩ fun env s hI => ?_
  · obtain ⟨x2, x3, rfl, hc⟩ := hI
    rw [Nat.zero_add] at hc ⊢
    rw [List.getElem?_map] at hx
    cases el : (srtR (rowsL 4 k))[i]? with
    | none => rw [el] at hx; cases hx
    | some w =>
      rw [el] at hx
      cases hx
      have wm := mem_srtR.mp (List.mem_of_getElem? el)
      have wl := (mem_rowsL.mp wm).1
      have il : i < (srtR (rowsL 4 k)).length := (List.getElem?_eq_some_iff.mp el).1
      have dl := step_len k ((srtR (rowsL 4 k)).take i) []
      rw [List.length_take, List.length_nil] at dl
      have nx : (srtR (rowsL 4 k)).take (i + 1) = (srtR (rowsL 4 k)).take i ++ [w] := by rw [List.take_add_one, el]; rfl
      simp only [wkA, List.set_cons_zero, List.set_cons_succ, Option.some.injEq, exists_eq_left', exists_eq_left, List.length_cons, List.length_nil, Nat.reduceAdd, Nat.reduceLeDiff, true_and, and_true, if_true, Bool.not_true, Bool.not_false, Bool.false_eq_true, if_false, decide_eq_true_eq, List.cons.injEq, ↓reduceIte]
      refine (found_order_sp h1 (by omega) wl s).mono fun v s1 hv => ?_
      obtain ⟨rfl, K1⟩ := hv
      have hc1 := hc.keep K1
      rw [nxK_nx]
      simp only [wkA, List.set_cons_zero, List.set_cons_succ, Option.some.injEq, exists_eq_left', exists_eq_left, List.length_cons, List.length_nil, Nat.reduceAdd, Nat.reduceLeDiff, true_and, and_true, if_true, Bool.not_true, Bool.not_false, Bool.false_eq_true, if_false, decide_eq_true_eq, List.cons.injEq, ↓reduceIte]
      obtain ⟨nk, enk⟩ := nk_ord (ordL k w)
      refine Op.of (z := .bl (!((((srtR (rowsL 4 k)).take i).foldl (stepO k) []).any fun e => decide (e.1 = ordL k w)))) ?_ ?_
      · simp only [oNinN, dcnOf_own hc1.1, enk, ent_look]
      · cases ha : (((srtR (rowsL 4 k)).take i).foldl (stepO k) []).any fun e => decide (e.1 = ordL k w) with
        | true =>
          simp only [Bool.not_true, Bool.false_eq_true, if_false]
          refine ⟨_, _, ⟨rfl, rfl⟩, ?_⟩
          rw [nx, List.foldl_append]
          simp only [List.foldl_cons, List.foldl_nil]
          have : stepO k (((srtR (rowsL 4 k)).take i).foldl (stepO k) []) w = ((srtR (rowsL 4 k)).take i).foldl (stepO k) [] := stepO_old ha
          rw [this]
          exact hc1
        | false =>
          simp only [Bool.not_false, if_true]
          refine ok_subN ?_
          simp only [wkA, List.set_cons_zero, List.set_cons_succ, Option.some.injEq, exists_eq_left', exists_eq_left, List.length_cons, List.length_nil, Nat.reduceAdd, Nat.reduceLeDiff, true_and, and_true, if_true, Bool.not_true, Bool.not_false, Bool.false_eq_true, if_false, decide_eq_true_eq, List.cons.injEq, ↓reduceIte]
          refine ⟨_, _, _, rfl, hc1.1, enk, by rw [List.length_map]; omega, _, _, ⟨rfl, rfl⟩, ?_⟩
          rw [nx, List.foldl_append]
          simp only [List.foldl_cons, List.foldl_nil]
          have : stepO k (((srtR (rowsL 4 k)).take i).foldl (stepO k) []) w = ((srtR (rowsL 4 k)).take i).foldl (stepO k) [] ++ [(ordL k w, w)] := stepO_new ha
          rw [this]
          refine ⟨?_, hc1.2.set (.inl (Nat.le_refl _)) _⟩
          rw [st_set hc1.1, if_pos rfl, ent_put ha]
  · obtain ⟨x2, x3, rfl, hc⟩ := hI
    rw [Nat.zero_add, List.length_map, List.take_length] at hc
    rw [nxK_nx]
    simp only [wkA, List.set_cons_zero, List.set_cons_succ, Option.some.injEq, exists_eq_left', exists_eq_left, List.length_cons, List.length_nil, Nat.reduceAdd, Nat.reduceLeDiff, true_and, and_true, if_true, Bool.not_true, Bool.not_false, Bool.false_eq_true, if_false, decide_eq_true_eq, List.cons.injEq, ↓reduceIte]
    exact hc
theorem ents_len {k : Nat} (h1 : 1 ≤ k) (h3 : k ≤ 3) : (entsL k).length ≤ 64 := by
  have := step_len k (srtR (rowsL 4 k)) []
  have := small_len h1 h3
  unfold entsL
  simp at *
  omega
theorem ents_w {k : Nat} : ∀ {e : En}, e ∈ entsL k → e.2 ∈ rowsL 4 k ∧ e.1 = ordL k e.2 := by
  have key : ∀ (ws : List (List Int)) (d : List En), (∀ e, e ∈ d → e.2 ∈ rowsL 4 k ∧ e.1 = ordL k e.2) → (∀ w, w ∈ ws → w ∈ rowsL 4 k) → ∀ e, e ∈ ws.foldl (stepO k) d → e.2 ∈ rowsL 4 k ∧ e.1 = ordL k e.2 := by
    intro ws
    induction ws with
    | nil => intro d h _ e he; exact h e he
    | cons w r ih =>
      intro d h hw e he
      rw [List.foldl_cons] at he
      refine ih _ (fun x hx => ?_) (fun x hx => hw x (List.mem_cons_of_mem _ hx)) e he
      unfold stepO at hx
      split at hx
      · exact h x hx
      · rcases List.mem_append.mp hx with hx | hx
        · exact h x hx
        · simp at hx; subst hx; exact ⟨hw w List.mem_cons_self, rfl⟩
  intro e he
  exact key _ [] (fun e he => nomatch he) (fun w hw => mem_srtR.mp hw) e he
theorem ents_wl {k : Nat} {e : En} (h : e ∈ entsL k) : e.2.length = k ∧ ∀ x, x ∈ e.2 → 0 < x := by
  obtain ⟨a, b⟩ := mem_rowsL.mp (ents_w h).1
  exact ⟨a, fun x hx => by have := b x hx; omega⟩
theorem call_v0 (f : Fn) (v : PV) (env : Ev) (st : Store) : eCall 1 f (aCons (eVar 0) aNil) (some v :: env) st = f [v] st := by
  simp only [eCall, aCons, aNil, eVar, v0, b_ok, List.length_cons, List.length_nil, if_true]
theorem items_sp {k : Nat} (h1 : 1 ≤ k) (h3 : k ≤ 3) {env : Ev} {st : Store} {f : XE} {L : List PV → Store → Prop} (hf : f env st = p_found_orders [.int (k : Int)] st) (h : ∀ s, Keeps [] st s → L ((entsL k).map fun e => .tup [ordV e.1, tI e.2]) s) : Ok (iItemsF (eFrzD f) env st) L := by
  refine ok_items (ok_frzN ?_)
  rw [hf]
  refine (found_orders_sp h1 h3 st).mono fun v s hv => ?_
  obtain ⟨rfl, hc⟩ := hv
  refine ⟨_, _, rfl, hc.1, _, dnfOf_own (by rw [st_set hc.1, if_pos rfl]), ?_⟩
  rw [List.map_map]
  exact h _ (hc.2.set (.inl (Nat.le_refl _)) _)
theorem orders_sp {k : Nat} (h1 : 1 ≤ k) (h3 : k ≤ 3) (st : Store) : Ok (p_orders [.int (k : Int)] st) fun v s => v = .tup ((entsL k).map fun e => .tup [tI e.2, ordV e.1]) ∧ Keeps [] st s := by
  have sz := szl
  (unfold p_orders runF; rw [ok_retF]; simp only [env0, List.map_cons, List.map_nil, List.length_cons, List.length_nil, Nat.reduceAdd, Nat.reduceSub, List.reduceReplicate, List.cons_append, List.nil_append])
  simp only [wkA, List.set_cons_zero, List.set_cons_succ, Option.some.injEq, exists_eq_left', exists_eq_left, List.length_cons, List.length_nil, Nat.reduceAdd, Nat.reduceLeDiff, true_and, and_true, if_true, Bool.not_true, Bool.not_false, Bool.false_eq_true, if_false, decide_eq_true_eq, List.cons.injEq, ↓reduceIte]
  rw [Ok.eq (things_sp h1 (by omega) st)]
  rw [nxK_nx]
  simp only [wkA, List.set_cons_zero, List.set_cons_succ, Option.some.injEq, exists_eq_left', exists_eq_left, List.length_cons, List.length_nil, Nat.reduceAdd, Nat.reduceLeDiff, true_and, and_true, if_true, Bool.not_true, Bool.not_false, Bool.false_eq_true, if_false, decide_eq_true_eq, List.cons.injEq, ↓reduceIte]
  rw [if_neg (show ¬ (3 : Int) < (k : Int) by omega)]
  rw [nxK_nx]
  simp only [wkA, List.set_cons_zero, List.set_cons_succ, Option.some.injEq, exists_eq_left', exists_eq_left, List.length_cons, List.length_nil, Nat.reduceAdd, Nat.reduceLeDiff, true_and, and_true, if_true, Bool.not_true, Bool.not_false, Bool.false_eq_true, if_false, decide_eq_true_eq, List.cons.injEq, ↓reduceIte]
  refine items_sp h1 h3 (call_v0 _ _ _ _) fun s K => ?_
  refine ok_mapE (fun e : En => PV.tup [ordV e.1, tI e.2]) (fun e => PV.tup [tI e.2, ordV e.1]) (fun e he => ?_) ?_
  · simp only [wipeE]
    simp only [wkA, List.set_cons_zero, List.set_cons_succ, Option.some.injEq, exists_eq_left', exists_eq_left, List.length_cons, List.length_nil, Nat.reduceAdd, Nat.reduceLeDiff, true_and, and_true, if_true, Bool.not_true, Bool.not_false, Bool.false_eq_true, if_false, decide_eq_true_eq, List.cons.injEq, ↓reduceIte]
  · exact Op.of rfl ⟨rfl, K⟩
theorem found_agreeing_sp {k : Nat} {told : List Cp} (h1 : 1 ≤ k) (h3 : k ≤ 3) (h : Valid k told) (hl : told.length ≤ 8) (st : Store) : Ok (p_found_agreeing [.int (k : Int), toldV told] st) fun v s => v = .lst (((entsL k).filter fun e => agB e.2 told).map fun e => .tup [ordV e.1, tI e.2]) ∧ Keeps [] st s := by
  have sz := szl
  (unfold p_found_agreeing runF; rw [ok_retF]; simp only [env0, List.map_cons, List.map_nil, List.length_cons, List.length_nil, Nat.reduceAdd, Nat.reduceSub, List.reduceReplicate, List.cons_append, List.nil_append])
  simp only [wkA, List.set_cons_zero, List.set_cons_succ, Option.some.injEq, exists_eq_left', exists_eq_left, List.length_cons, List.length_nil, Nat.reduceAdd, Nat.reduceLeDiff, true_and, and_true, if_true, Bool.not_true, Bool.not_false, Bool.false_eq_true, if_false, decide_eq_true_eq, List.cons.injEq, ↓reduceIte]
  rw [Ok.eq (check_told_sp h1 (by omega) h hl st)]
  rw [nxK_nx]
  simp only [wkA, List.set_cons_zero, List.set_cons_succ, Option.some.injEq, exists_eq_left', exists_eq_left, List.length_cons, List.length_nil, Nat.reduceAdd, Nat.reduceLeDiff, true_and, and_true, if_true, Bool.not_true, Bool.not_false, Bool.false_eq_true, if_false, decide_eq_true_eq, List.cons.injEq, ↓reduceIte]
  rw [if_neg (show ¬ (3 : Int) < (k : Int) by omega)]
  rw [nxK_nx]
  simp only [wkA, List.set_cons_zero, List.set_cons_succ, Option.some.injEq, exists_eq_left', exists_eq_left, List.length_cons, List.length_nil, Nat.reduceAdd, Nat.reduceLeDiff, true_and, and_true, if_true, Bool.not_true, Bool.not_false, Bool.false_eq_true, if_false, decide_eq_true_eq, List.cons.injEq, ↓reduceIte]
  refine items_sp h1 h3 (call_v0 _ _ _ _) fun s K => ?_
  refine ok_fmapE (fun e : En => PV.tup [ordV e.1, tI e.2]) (fun e => agB e.2 told) (fun e => PV.tup [ordV e.1, tI e.2]) (fun e he => ?_) ?_
  · simp only [wipeE]
    simp only [wkA, List.set_cons_zero, List.set_cons_succ, Option.some.injEq, exists_eq_left', exists_eq_left, List.length_cons, List.length_nil, Nat.reduceAdd, Nat.reduceLeDiff, true_and, and_true, if_true, Bool.not_true, Bool.not_false, Bool.false_eq_true, if_false, decide_eq_true_eq, List.cons.injEq, ↓reduceIte]
    have ag : p_do_agree [toldV told, tI e.2] s = .ok (.bl (agB e.2 told)) s := do_agree_sp (by rw [(ents_wl he).1]; exact h) s
    rw [Ok.eq ag]
    exact ⟨rfl, rfl, fun _ => trivial⟩
  · exact ⟨rfl, K⟩
end Lq
end
section
set_option Elab.async false
set_option linter.all false
set_option maxRecDepth 100000
namespace Lq
open PySem PySem.Spec PyProof.Rows L2
open Sx (at0 si)
theorem three {k : Nat} (h1 : 1 ≤ k) (h3 : k ≤ 3) : k = 1 ∨ k = 2 ∨ k = 3 := by omega
theorem agB_snoc (w : List Int) (told : List Cp) (c : Cp) : agB w (told ++ [c]) = (agB w told && holdB w c) := by unfold agB; rw [List.all_append]; simp
theorem valid_snoc {k : Nat} {told : List Cp} {c : Cp} (v : Valid k told) (hc : ValidC k c) : Valid k (told ++ [c]) := fun d hd => by
  rcases List.mem_append.mp hd with h | h
  · exact v d h
  · rw [List.mem_singleton.mp h]; exact hc
def agL (k : Nat) (told : List Cp) : List En := (entsL k).filter fun e => agB e.2 told
end Lq
end
section
set_option Elab.async false
set_option linter.all false
set_option maxRecDepth 100000
namespace Lq
open PySem PySem.Spec PyProof.Rows L2
open Sx (at0 si)
def lensL (o : List (List Lo)) : List Int := o.map fun g => (g.length : Int)
def mxL (o : List (List Lo)) : Int := match lensL o with | n :: ns => maxI n ns | [] => 0
def stepC (k : Nat) (d : List (List (List Lo))) (w : List Int) : List (List (List Lo)) := if mxL (ordL k w) = 1 then (if (d.any fun e => decide (e = ordL k w)) = true then d else d ++ [ordL k w]) else d
theorem rng_at2 {a : Int} {n i : Nat} {x : PV} (h : (rng a n)[i]? = some x) : i < n ∧ x = .int (a + (i : Int)) := by
  unfold rng at h
  rw [List.getElem?_map] at h
  by_cases w : i < n
  · rw [List.getElem?_range w] at h
    exact ⟨w, by cases h; rfl⟩
  · rw [List.getElem?_eq_none (by simp; omega)] at h; cases h
theorem rng_lenA (a : Int) (n : Nat) : (rng a n).length = n := by unfold rng; simp
end Lq
end
section
set_option Elab.async false
set_option linter.all false
set_option maxRecDepth 100000
namespace Lq
open PySem PySem.Spec PyProof.Rows L2
def outF (fc : Fn) : Fn := runF 5
    (sSeq (sSet 2 (eC .non))
    (sSeq (sSet 3 (eC .non))
    (sSeq (sTryCall 4 2 3 2 excs fc (aCons (eVar 0) (aCons (eVar 1) aNil)))
    (sSeq (sIf (tE (eBin oIsN (eVar 2) (eC .non))) (sRet (eTup (aCons (eC (.str "returned")) (aCons (eVar 3) aNil)))) sNil)
    (sRet (eTup (aCons (eC (.str "raised")) (aCons (eCall 1 p__law_name (aCons (eVar 2) aNil)) aNil))))))))
def rsd (c : Str) : PV := .tup [.str "raised", .int (excN c : Int)]
theorem outF_x {fc : Fn} {how args : PV} {st : Store} {c : Str} {P : Store → Prop} (hc : c ∈ excs) (h : Ex (fc [how, args] st) c P) : Ok (outF fc [how, args] st) fun v s => v = rsd c ∧ ∃ s2, P s2 ∧ s = s2 ++ [.exc c] := by
  obtain ⟨s2, e, hp⟩ := h
  (unfold outF runF; rw [ok_retF]; simp only [env0, List.map_cons, List.map_nil, List.length_cons, List.length_nil, Nat.reduceAdd, Nat.reduceSub, List.reduceReplicate, List.cons_append, List.nil_append])
  simp only [wkA, List.set_cons_zero, List.set_cons_succ, Option.some.injEq, exists_eq_left', exists_eq_left, List.length_cons, List.length_nil, Nat.reduceAdd, Nat.reduceLeDiff, true_and, and_true, if_true, Bool.not_true, Bool.not_false, Bool.false_eq_true, if_false, decide_eq_true_eq, List.cons.injEq, ↓reduceIte]
  rw [nxK_nx]
  simp only [wkA, List.set_cons_zero, List.set_cons_succ, Option.some.injEq, exists_eq_left', exists_eq_left, List.length_cons, List.length_nil, Nat.reduceAdd, Nat.reduceLeDiff, true_and, and_true, if_true, Bool.not_true, Bool.not_false, Bool.false_eq_true, if_false, decide_eq_true_eq, List.cons.injEq, ↓reduceIte]
  rw [nxK_nx]
  rw [ok_seq]
  refine ok_tryX (c := c) ?_
  simp only [wkA, List.set_cons_zero, List.set_cons_succ, Option.some.injEq, exists_eq_left', exists_eq_left, List.length_cons, List.length_nil, Nat.reduceAdd, Nat.reduceLeDiff, true_and, and_true, if_true, Bool.not_true, Bool.not_false, Bool.false_eq_true, if_false, decide_eq_true_eq, List.cons.injEq, ↓reduceIte]
  refine ⟨s2, e, hc, ?_⟩
  rw [nxK_nx]
  simp only [wkA, List.set_cons_zero, List.set_cons_succ, Option.some.injEq, exists_eq_left', exists_eq_left, List.length_cons, List.length_nil, Nat.reduceAdd, Nat.reduceLeDiff, true_and, and_true, if_true, Bool.not_true, Bool.not_false, Bool.false_eq_true, if_false, decide_eq_true_eq, List.cons.injEq, ↓reduceIte]
  refine Op.of (z := .bl false) rfl ?_
  simp only [Bool.false_eq_true, if_false]
  rw [nxK_nx]
  simp only [wkA, List.set_cons_zero, List.set_cons_succ, Option.some.injEq, exists_eq_left', exists_eq_left, List.length_cons, List.length_nil, Nat.reduceAdd, Nat.reduceLeDiff, true_and, and_true, if_true, Bool.not_true, Bool.not_false, Bool.false_eq_true, if_false, decide_eq_true_eq, List.cons.injEq, ↓reduceIte]
  rw [Ok.eq (name_sp (k := s2.length) hc (List.getElem?_concat_length ..))]
  exact ⟨rfl, s2, hp, rfl⟩
theorem outF_e {fc : Fn} {how args : PV} {st : Store} {c : Str} (hc : c ∈ excs) (h : fc [how, args] st = .ex c st) : outF fc [how, args] st = .ok (rsd c) (st ++ [.exc c]) := by
  obtain ⟨v, s, e, rfl, s2, rfl, rfl⟩ := outF_x hc (P := fun s => s = st) ⟨st, h, rfl⟩
  exact e
theorem rsd_pl (c : Str) : Pl (rsd c) := by
  have : PyData.strOk ("raised" : Str) = true := by kernel_rfl
  exact ⟨by simp [rsd, dChk, dOk, dOks, noScr, noScrs, this], fun _ => rfl⟩
theorem rs_told (st : Store) : p__law_raises [.str "told"] st = .ok (rsd "InvalidTold") st := by kernel_rfl
theorem rs_none (st : Store) : p__law_raises [.str "none_agree"] st = .ok (rsd "NoneAgree") st := by kernel_rfl
theorem rs_many (st : Store) : p__law_raises [.str "many"] st = .ok (rsd "TooMany") st := by kernel_rfl
end Lq
end
section
set_option Elab.async false
set_option linter.all false
set_option maxRecDepth 100000
namespace Lq
open PySem PySem.Spec PyProof.Rows L2
open Sx (at0 si)
inductive An where | lt | eq | gt
  deriving DecidableEq
def An.s : An → Str
  | .lt => "<"
  | .eq => "="
  | .gt => ">"
abbrev Qn := Lo × Lo
abbrev Wt := List Int
def ansA (q : Qn) (w : Wt) : An := if lw w q.2 < lw w q.1 then .gt else if lw w q.1 = lw w q.2 then .eq else .lt
def selA (q : Qn) (a : An) (ws : List Wt) : List Wt := ws.filter fun w => decide (ansA q w = a)
def ans3L : List An := [.lt, .eq, .gt]
def partsL (ws : List Wt) (q : Qn) : List (An × List Wt) := (ans3L.filter fun a => !(selA q a ws).isEmpty).map fun a => (a, selA q a ws)
def quV (q : Qn) : PV := .tup [lotV q.1, lotV q.2]
def someV (ws : List Wt) : PV := .tup (ws.map tI)
def partV (p : An × List Wt) : PV := .tup [.str p.1.s, someV p.2]
theorem answer_of_sp {k : Nat} {q : Qn} {w : Wt} (wl : w.length = k) (h1 : Lot k q.1) (h2 : Lot k q.2) (st : Store) : p_answer_of [quV q, tI w] st = .ok (.str (ansA q w).s) st := by
  apply eqOk
  (unfold p_answer_of runF; rw [ok_retF]; simp only [env0, List.map_cons, List.map_nil, List.length_cons, List.length_nil, Nat.reduceAdd, Nat.reduceSub, List.reduceReplicate, List.cons_append, List.nil_append])
  simp only [wkA, List.set_cons_zero, List.set_cons_succ, Option.some.injEq, exists_eq_left', exists_eq_left, List.length_cons, List.length_nil, Nat.reduceAdd, Nat.reduceLeDiff, true_and, and_true, if_true, Bool.not_true, Bool.not_false, Bool.false_eq_true, if_false, decide_eq_true_eq, List.cons.injEq, ↓reduceIte]
  refine Op.of (z := lotV q.1) rfl ?_
  have f1 : p_found_weight [tI w, lotV q.1] st = .ok (.int (lw w q.1)) st := fw_sp (fun x hx => by rw [wl]; exact h1.2 x hx) st
  have f2 : p_found_weight [tI w, lotV q.2] st = .ok (.int (lw w q.2)) st := fw_sp (fun x hx => by rw [wl]; exact h2.2 x hx) st
  rw [Ok.eq f1]
  refine Op.of (z := lotV q.2) rfl ?_
  rw [Ok.eq f2]
  simp only [wkA, List.set_cons_zero, List.set_cons_succ, Option.some.injEq, exists_eq_left', exists_eq_left, List.length_cons, List.length_nil, Nat.reduceAdd, Nat.reduceLeDiff, true_and, and_true, if_true, Bool.not_true, Bool.not_false, Bool.false_eq_true, if_false, decide_eq_true_eq, List.cons.injEq, ↓reduceIte]
  rw [nxK_nx]
  simp only [wkA, List.set_cons_zero, List.set_cons_succ, Option.some.injEq, exists_eq_left', exists_eq_left, List.length_cons, List.length_nil, Nat.reduceAdd, Nat.reduceLeDiff, true_and, and_true, if_true, Bool.not_true, Bool.not_false, Bool.false_eq_true, if_false, decide_eq_true_eq, List.cons.injEq, ↓reduceIte]
  unfold ansA
  by_cases a : lw w q.2 < lw w q.1
  · rw [if_pos (by omega), if_pos a]; rfl
  · rw [if_neg (by omega), if_neg a]
    by_cases b : lw w q.1 = lw w q.2
    · rw [if_pos b, b, Int.sub_self]; rfl
    · rw [if_neg b]
      rw [if_neg (by simp; omega)]; rfl
theorem peq_an (a b : An) : peq (.str a.s) (.str b.s) = decide (a = b) := by cases a <;> cases b <;> kernel_rfl
theorem an_str {ks : List An} (h : ks.Nodup) (ne : ks ≠ []) : srtS (ks.map An.s) = (ans3L.filter fun a => decide (a ∈ ks)).map An.s ∧ okAns (ks.map An.s) = true ∧ asInts ((ks.map An.s).map PV.str) = none ∧ strsOf ((ks.map An.s).map PV.str) = some (ks.map An.s) := by
  match ks, h, ne with
  | [a], _, _ => cases a <;> exact ⟨by kernel_rfl, by kernel_rfl, by kernel_rfl, by kernel_rfl⟩
  | [a, b], h, _ => cases a <;> cases b <;> first | exact absurd h (by decide) | exact ⟨by kernel_rfl, by kernel_rfl, by kernel_rfl, by kernel_rfl⟩
  | [a, b, c], h, _ => cases a <;> cases b <;> cases c <;> first | exact absurd h (by decide) | exact ⟨by kernel_rfl, by kernel_rfl, by kernel_rfl, by kernel_rfl⟩
  | a :: b :: c :: d :: r, h, _ => exfalso; cases a <;> cases b <;> cases c <;> cases d <;> simp at h
theorem selA_snoc_pos {q : Qn} {a : An} {ws : List Wt} {w : Wt} (h : ansA q w = a) : selA q a (ws ++ [w]) = selA q a ws ++ [w] := by
  unfold selA; rw [List.filter_append]; simp [h]
theorem selA_snoc_neg {q : Qn} {a : An} {ws : List Wt} {w : Wt} (h : ¬ ansA q w = a) : selA q a (ws ++ [w]) = selA q a ws := by
  unfold selA; rw [List.filter_append]; simp [h]
def anD (q : Qn) (ks : List An) (ws : List Wt) : List (PV × PV) := ks.map fun a => (.str a.s, someV (selA q a ws))
theorem anD_look {q : Qn} {ws : List Wt} {a : An} : ∀ {ks : List An}, dLook (anD q ks ws) (.str a.s) = if a ∈ ks then some (someV (selA q a ws)) else none
  | [] => rfl
  | b :: r => by
    have ih := anD_look (q := q) (ws := ws) (a := a) (ks := r)
    unfold dLook anD at ih ⊢
    rw [List.map_cons, List.find?_cons, peq_an]
    by_cases h : b = a
    · subst h; simp
    · rw [decide_eq_false h]
      simp only [List.mem_cons, show ¬ a = b from fun z => h z.symm, false_or]
      exact ih
theorem add_some (ws : List Wt) (w : Wt) (s : Store) (h : ws.length ≤ 1000) : oAdd (someV ws) (.tup [tI w]) s = some (someV (ws ++ [w])) := by
  unfold someV
  rw [add_tup _ _ _ (by simp; omega), List.map_append]
  rfl
theorem anD_put {q : Qn} {ks : List An} {ws : List Wt} {w : Wt} : dPut (anD q ks ws) (.str (ansA q w).s) (someV (selA q (ansA q w) ws ++ [w])) = if ansA q w ∈ ks then anD q ks (ws ++ [w]) else anD q ks ws ++ [(.str (ansA q w).s, someV (selA q (ansA q w) ws ++ [w]))] := by
  have e : ((anD q ks ws).any fun kv => peq kv.1 (.str (ansA q w).s)) = decide (ansA q w ∈ ks) := by
    unfold anD
    rw [List.any_map, Bool.eq_iff_iff, List.any_eq_true, decide_eq_true_eq]
    constructor
    · rintro ⟨x, hx, hp⟩
      have : peq (.str x.s) (.str (ansA q w).s) = true := hp
      rw [peq_an, decide_eq_true_eq] at this
      rw [← this]; exact hx
    · intro h
      exact ⟨_, h, by show peq (.str (ansA q w).s) (.str (ansA q w).s) = true; rw [peq_an]; simp⟩
  unfold dPut
  rw [e]
  by_cases h : ansA q w ∈ ks
  · rw [decide_eq_true h, if_pos rfl, if_pos h]
    unfold anD
    rw [List.map_map]
    refine List.map_congr_left fun b hb => ?_
    show (if peq (.str b.s) (.str (ansA q w).s) = true then (PV.str b.s, someV (selA q (ansA q w) ws ++ [w])) else (PV.str b.s, someV (selA q b ws))) = (PV.str b.s, someV (selA q b (ws ++ [w])))
    rw [peq_an]
    by_cases z : b = ansA q w
    · rw [decide_eq_true z, if_pos rfl, z, selA_snoc_pos rfl]
    · rw [decide_eq_false z, if_neg Bool.false_ne_true, selA_snoc_neg (fun y => z y.symm)]
  · rw [decide_eq_false h, if_neg Bool.false_ne_true, if_neg h]
def IvA (st : Store) (q : Qn) (ws : List Wt) (s : Store) : Prop := ∃ ks : List An, s[st.length]? = some (.dct (anD q ks ws)) ∧ Keeps [] st s ∧ ks.Nodup ∧ ∀ a, a ∈ ks ↔ selA q a ws ≠ []
theorem an_len {ks : List An} (h : ks.Nodup) : ks.length ≤ 3 := by
  match ks, h with
  | [], _ => simp
  | [a], _ => simp
  | [a, b], _ => simp
  | [a, b, c], _ => simp
  | a :: b :: c :: d :: r, h => exfalso; cases a <;> cases b <;> cases c <;> cases d <;> simp at h
theorem parted_sp {k : Nat} {q : Qn} {ws : List Wt} (ne : ws ≠ []) (wl : ∀ w, w ∈ ws → w.length = k) (hl : ws.length ≤ 1000) (h1 : Lot k q.1) (h2 : Lot k q.2) (st : Store) :
    Ok (p_parted [someV ws, quV q] st) fun v s => v = .lst ((partsL ws q).map partV) ∧ Keeps [] st s := by
  have sz := szl
  (unfold p_parted runF; rw [ok_retF]; simp only [env0, List.map_cons, List.map_nil, List.length_cons, List.length_nil, Nat.reduceAdd, Nat.reduceSub, List.reduceReplicate, List.cons_append, List.nil_append])
  simp only [wkA, List.set_cons_zero, List.set_cons_succ, Option.some.injEq, exists_eq_left', exists_eq_left, List.length_cons, List.length_nil, Nat.reduceAdd, Nat.reduceLeDiff, true_and, and_true, if_true, Bool.not_true, Bool.not_false, Bool.false_eq_true, if_false, decide_eq_true_eq, List.cons.injEq, ↓reduceIte]
  rw [ok_dct]
  rw [nxK_nx]
  simp only [wkA, List.set_cons_zero, List.set_cons_succ, Option.some.injEq, exists_eq_left', exists_eq_left, List.length_cons, List.length_nil, Nat.reduceAdd, Nat.reduceLeDiff, true_and, and_true, if_true, Bool.not_true, Bool.not_false, Bool.false_eq_true, if_false, decide_eq_true_eq, List.cons.injEq, ↓reduceIte]
  refine ⟨_, rfl, ?_⟩
  refine ok_loop (fun i env s => ∃ x3 x4, env = [some (someV ws), some (quV q), some (.own st.length), x3, x4] ∧ IvA st q (ws.take i) s) _ 0 _ _ (fun i x hx env s hI => ?_)
    ⟨_, _, rfl, [], own_new _ _, Keeps.app _ _ _, by simp, by simp [selA]⟩ fun env s hI => ?_
  · obtain ⟨x3, x4, rfl, ks, hc, K, nd, hm⟩ := hI
    rw [Nat.zero_add] at hc hm ⊢
    rw [List.getElem?_map] at hx
    cases el : ws[i]? with
    | none => rw [el] at hx; cases hx
    | some w =>
      rw [el] at hx
      cases hx
      have wm := List.mem_of_getElem? el
      have nx : ws.take (i + 1) = ws.take i ++ [w] := by rw [List.take_add_one, el]; rfl
      simp only [wkA, List.set_cons_zero, List.set_cons_succ, Option.some.injEq, exists_eq_left', exists_eq_left, List.length_cons, List.length_nil, Nat.reduceAdd, Nat.reduceLeDiff, true_and, and_true, if_true, Bool.not_true, Bool.not_false, Bool.false_eq_true, if_false, decide_eq_true_eq, List.cons.injEq, ↓reduceIte]
      rw [Ok.eq (answer_of_sp (wl w wm) h1 h2 s)]
      rw [nxK_nx]
      refine ok_dput ?_
      simp only [wkA, List.set_cons_zero, List.set_cons_succ, Option.some.injEq, exists_eq_left', exists_eq_left, List.length_cons, List.length_nil, Nat.reduceAdd, Nat.reduceLeDiff, true_and, and_true, if_true, Bool.not_true, Bool.not_false, Bool.false_eq_true, if_false, decide_eq_true_eq, List.cons.injEq, ↓reduceIte]
      refine ok_dget2 ?_
      simp only [wkA, List.set_cons_zero, List.set_cons_succ, Option.some.injEq, exists_eq_left', exists_eq_left, List.length_cons, List.length_nil, Nat.reduceAdd, Nat.reduceLeDiff, true_and, and_true, if_true, Bool.not_true, Bool.not_false, Bool.false_eq_true, if_false, decide_eq_true_eq, List.cons.injEq, ↓reduceIte]
      have kl := an_len nd
      refine ⟨⟨_, dctOf_own hc⟩, _, _, dctOf_own hc, rfl, ?_⟩
      have sl : (selA q (ansA q w) (ws.take i)).length ≤ 1000 := by
        have := List.length_filter_le (fun w' => decide (ansA q w' = ansA q w)) (ws.take i)
        rw [List.length_take] at this
        unfold selA; omega
      refine Op.of (z := someV (selA q (ansA q w) (ws.take i) ++ [w])) ?_ ⟨_, _, _, rfl, hc, rfl, by unfold anD; rw [List.length_map]; omega, _, _, ⟨rfl, rfl⟩, ?_⟩
      · rw [anD_look]
        by_cases h : ansA q w ∈ ks
        · rw [if_pos h]; exact add_some _ _ _ sl
        · have : selA q (ansA q w) (ws.take i) = [] := Classical.byContradiction fun z => h ((hm _).mpr z)
          rw [if_neg h, this]
          exact add_some [] w s (by simp)
      · rw [anD_put, nx]
        by_cases h : ansA q w ∈ ks
        · rw [if_pos h]
          refine ⟨ks, by rw [st_set hc, if_pos rfl], K.set (.inl (Nat.le_refl _)) _, nd, fun a => ?_⟩
          rw [hm]
          by_cases z : ansA q w = a
          · rw [selA_snoc_pos z]
            refine ⟨fun _ => by simp, fun _ => (hm a).mp (by rw [← z]; exact h)⟩
          · rw [selA_snoc_neg z]
        · have em : selA q (ansA q w) (ws.take i) = [] := Classical.byContradiction fun z => h ((hm _).mpr z)
          rw [if_neg h]
          have ex : anD q ks (ws.take i) ++ [(.str (ansA q w).s, someV (selA q (ansA q w) (ws.take i) ++ [w]))] = anD q (ks ++ [ansA q w]) (ws.take i ++ [w]) := by
            unfold anD
            rw [List.map_append]
            congr 1
            · refine List.map_congr_left fun b hb => ?_
              rw [selA_snoc_neg (fun z => h (by rw [z]; exact hb))]
            · show _ = [(PV.str (ansA q w).s, someV (selA q (ansA q w) (ws.take i ++ [w])))]
              rw [selA_snoc_pos rfl]
          rw [ex]
          refine ⟨ks ++ [ansA q w], by rw [st_set hc, if_pos rfl], K.set (.inl (Nat.le_refl _)) _, ?_, fun a => ?_⟩
          · rw [List.nodup_append]
            exact ⟨nd, by simp, fun a ha b hb => by simp at hb; subst hb; exact fun z => h (by rw [← z]; exact ha)⟩
          · rw [List.mem_append, List.mem_singleton, hm]
            by_cases z : ansA q w = a
            · rw [selA_snoc_pos z]
              exact ⟨fun _ => by simp, fun _ => .inr z.symm⟩
            · rw [selA_snoc_neg z]
              exact ⟨fun y => y.elim id fun y => absurd y.symm z, .inl⟩
  · obtain ⟨x3, x4, rfl, ks, hc, K, nd, hm⟩ := hI
    rw [Nat.zero_add, List.length_map, List.take_length] at hc hm
    have kne : ks ≠ [] := by
      obtain ⟨w, hw⟩ := List.exists_mem_of_ne_nil ws ne
      refine List.ne_nil_of_mem ((hm (ansA q w)).mpr (List.ne_nil_of_mem (a := w) ?_))
      exact List.mem_filter.mpr ⟨hw, by simp⟩
    obtain ⟨s1, s2, s3, s4⟩ := an_str nd kne
    rw [nxK_nx]
    simp only [wkA, List.set_cons_zero, List.set_cons_succ, Option.some.injEq, exists_eq_left', exists_eq_left, List.length_cons, List.length_nil, Nat.reduceAdd, Nat.reduceLeDiff, true_and, and_true, if_true, Bool.not_true, Bool.not_false, Bool.false_eq_true, if_false, decide_eq_true_eq, List.cons.injEq, ↓reduceIte]
    refine ok_sortKS ?_
    simp only [wkA, List.set_cons_zero, List.set_cons_succ, Option.some.injEq, exists_eq_left', exists_eq_left, List.length_cons, List.length_nil, Nat.reduceAdd, Nat.reduceLeDiff, true_and, and_true, if_true, Bool.not_true, Bool.not_false, Bool.false_eq_true, if_false, decide_eq_true_eq, List.cons.injEq, ↓reduceIte]
    have ek : (anD q ks ws).map (·.1) = (ks.map An.s).map PV.str := by unfold anD; rw [List.map_map, List.map_map]; rfl
    have kl := an_len nd
    refine ⟨_, _, dctOf_own hc, by unfold anD; rw [List.length_map]; omega, by rw [ek]; exact s3, by rw [ek]; exact s4, s2, _, rfl, ?_⟩
    rw [s1, List.map_map]
    refine ok_mapE (fun a : An => PV.str a.s) (fun a => partV (a, selA q a ws)) (fun a ha => ?_) ?_
    · simp only [wipeE]
      simp only [wkA, List.set_cons_zero, List.set_cons_succ, Option.some.injEq, exists_eq_left', exists_eq_left, List.length_cons, List.length_nil, Nat.reduceAdd, Nat.reduceLeDiff, true_and, and_true, if_true, Bool.not_true, Bool.not_false, Bool.false_eq_true, if_false, decide_eq_true_eq, List.cons.injEq, ↓reduceIte]
      refine ok_dget ?_
      simp only [wkA, List.set_cons_zero, List.set_cons_succ, Option.some.injEq, exists_eq_left', exists_eq_left, List.length_cons, List.length_nil, Nat.reduceAdd, Nat.reduceLeDiff, true_and, and_true, if_true, Bool.not_true, Bool.not_false, Bool.false_eq_true, if_false, decide_eq_true_eq, List.cons.injEq, ↓reduceIte]
      have ak : a ∈ ks := by simpa using (List.mem_filter.mp ha).2
      exact ⟨_, _, _, dctOf_own hc, rfl, by rw [anD_look, if_pos ak], rfl⟩
    · refine ⟨?_, K⟩
      unfold partsL
      rw [List.map_map]
      congr 1
      have : (ans3L.filter fun a => decide (a ∈ ks)) = ans3L.filter fun a => !(selA q a ws).isEmpty := by
        refine List.filter_congr fun a _ => ?_
        rw [Bool.eq_iff_iff, decide_eq_true_eq, hm]
        simp
      rw [this]
      rfl
def qsL : Nat → List Qn
  | 2 => [([0], [1])]
  | 3 => [([0], [1]), ([0], [1, 2]), ([0], [2]), ([0, 1], [2]), ([0, 2], [1]), ([1], [2])]
  | _ => []
theorem qs_lot {k : Nat} (h1 : 1 ≤ k) (h3 : k ≤ 3) : ∀ q, q ∈ qsL k → Lot k q.1 ∧ Lot k q.2 := by
  rcases three h1 h3 with rfl | rfl | rfl <;> decide
theorem qs_len (k : Nat) : (qsL k).length ≤ 6 := by
  unfold qsL; split <;> decide
def oneL (k : Nat) : List Lo := (lotsL k).filter fun l => !l.isEmpty
def qsOf (k : Nat) (l : Lo) : List Qn := (qsL k).filter fun q => decide (q.1 = l)
theorem qs_flat {k : Nat} (h1 : 1 ≤ k) (h3 : k ≤ 3) : ∀ i, i < (oneL k).length → ((oneL k).take i).flatMap (qsOf k) ++ qsOf k ((oneL k).getD i []) = ((oneL k).take (i + 1)).flatMap (qsOf k) := by
  rcases three h1 h3 with rfl | rfl | rfl <;> decide
theorem qs_all {k : Nat} (h1 : 1 ≤ k) (h3 : k ≤ 3) : (oneL k).flatMap (qsOf k) = qsL k := by
  rcases three h1 h3 with rfl | rfl | rfl <;> decide
def aqE : XE := (eFz (fComp (iVal (eVar 1)) (gNm 5) (tAndF (tE (eBin oLt (eVar 3) (eVar 5))) (tNotF (tE (eCB oAny (aCons (eFz (fComp (iVal (eVar 3)) (gNm 6) (fun _ st => .ok true st) (eBin oIn (eVar 6) (eVar 5)) [6])) aNil))))) (eTup (aCons (eVar 3) (aCons (eVar 5) aNil))) [5]))
theorem aq_row {k : Nat} (h1 : 1 ≤ k) (h3 : k ≤ 3) : ∀ (i : Nat) (l : Lo), (oneL k)[i]? = some l → ∀ (a : Option PV) (s : Store), aqE [some (.int (k : Int)), some (.lst ((oneL k).map lotV)), a, some (lotV l), none, none, none] s = .ok (.lst ((qsOf k l).map quV)) s := by
  have go : ∀ (k i : Nat) (l : Lo), (k = 1 ∨ k = 2 ∨ k = 3) → i < 7 → (oneL k)[i]? = some l → ∀ (a : Option PV) (s : Store), aqE [some (.int (k : Int)), some (.lst ((oneL k).map lotV)), a, some (lotV l), none, none, none] s = .ok (.lst ((qsOf k l).map quV)) s := by
    intro k i l hk hi hl a s
    have i7 : i = 0 ∨ i = 1 ∨ i = 2 ∨ i = 3 ∨ i = 4 ∨ i = 5 ∨ i = 6 := by omega
    rcases hk with rfl | rfl | rfl <;> rcases i7 with rfl | rfl | rfl | rfl | rfl | rfl | rfl <;> simp [oneL, lotsL] at hl <;> subst hl <;> kernel_rfl
  intro i l hl
  refine go k i l (three h1 h3) ?_ hl
  have a := (List.getElem?_eq_some_iff.mp hl).1
  have b : (oneL k).length ≤ 7 := by rcases three h1 h3 with rfl | rfl | rfl <;> decide
  omega
theorem all_questions_sp {k : Nat} (h1 : 1 ≤ k) (h3 : k ≤ 3) (st : Store) : Ok (p_all_questions [.int (k : Int)] st) fun v s => v = .lst ((qsL k).map quV) ∧ Keeps [] st s := by
  have sz := szl
  (unfold p_all_questions runF; rw [ok_retF]; simp only [env0, List.map_cons, List.map_nil, List.length_cons, List.length_nil, Nat.reduceAdd, Nat.reduceSub, List.reduceReplicate, List.cons_append, List.nil_append])
  simp only [wkA, List.set_cons_zero, List.set_cons_succ, Option.some.injEq, exists_eq_left', exists_eq_left, List.length_cons, List.length_nil, Nat.reduceAdd, Nat.reduceLeDiff, true_and, and_true, if_true, Bool.not_true, Bool.not_false, Bool.false_eq_true, if_false, decide_eq_true_eq, List.cons.injEq, ↓reduceIte]
  have al : ∀ s, p_all_lots [.int (k : Int)] s = .ok (.lst ((lotsL k).map lotV)) s := fun s => lots_sp h1 (by omega) s
  rw [Ok.eq (al st)]
  refine ⟨_, rfl, ?_⟩
  refine ok_fmapE lotV (fun l => !l.isEmpty) lotV (fun l hl => ?_) ?_
  · simp only [wipeE]
    simp only [wkA, List.set_cons_zero, List.set_cons_succ, Option.some.injEq, exists_eq_left', exists_eq_left, List.length_cons, List.length_nil, Nat.reduceAdd, Nat.reduceLeDiff, true_and, and_true, if_true, Bool.not_true, Bool.not_false, Bool.false_eq_true, if_false, decide_eq_true_eq, List.cons.injEq, ↓reduceIte]
    refine Op.of (z := .bl (!l.isEmpty)) ?_ ⟨rfl, fun _ => trivial⟩
    show oNe (lotV l) (lotV []) st = _
    rw [oNe_pl (pl_lot _) (pl_lot []), peq_lotV]
    cases l <;> simp
  · rw [nxK_nx]
    simp only [wkA, List.set_cons_zero, List.set_cons_succ, Option.some.injEq, exists_eq_left', exists_eq_left, List.length_cons, List.length_nil, Nat.reduceAdd, Nat.reduceLeDiff, true_and, and_true, if_true, Bool.not_true, Bool.not_false, Bool.false_eq_true, if_false, decide_eq_true_eq, List.cons.injEq, ↓reduceIte]
    rw [nxK_nx]
    simp only [wkA, List.set_cons_zero, List.set_cons_succ, Option.some.injEq, exists_eq_left', exists_eq_left, List.length_cons, List.length_nil, Nat.reduceAdd, Nat.reduceLeDiff, true_and, and_true, if_true, Bool.not_true, Bool.not_false, Bool.false_eq_true, if_false, decide_eq_true_eq, List.cons.injEq, ↓reduceIte]
    refine ⟨_, rfl, ?_⟩
    refine ok_loop (fun i env s => ∃ x3, env = [some (.int (k : Int)), some (.lst ((oneL k).map lotV)), some (.own st.length), x3, none, none, none] ∧ s[st.length]? = some (.lst ((((oneL k).take i).flatMap (qsOf k)).map quV)) ∧ Keeps [] st s) _ 0 _ _ (fun i x hx env s hI => ?_)
      ⟨_, rfl, own_new _ _, Keeps.app _ _ _⟩ fun env s hI => ?_
    · obtain ⟨x3, rfl, hc, K⟩ := hI
      rw [Nat.zero_add] at hc ⊢
      rw [List.getElem?_map] at hx
      cases el : (oneL k)[i]? with
      | none =>
        have : ((lotsL k).filter fun l => !l.isEmpty)[i]? = none := el
        rw [this] at hx; cases hx
      | some l =>
        have el' : ((lotsL k).filter fun l => !l.isEmpty)[i]? = some l := el
        rw [el'] at hx
        cases hx
        have il : i < (oneL k).length := (List.getElem?_eq_some_iff.mp el).1
        rw [ok_gNm]
        simp only [List.set_cons_zero, List.set_cons_succ]
        rw [ok_drop, ok_lm, ok_var]
        refine ⟨_, rfl, _, _, rfl, hc, ?_⟩
        rw [ok_aCons]
        have row := aq_row h1 h3 i l el (some (.own st.length)) s
        unfold aqE at row
        rw [Ok.eq row, ok_aNil]
        have fl := qs_flat h1 h3 i il
        rw [List.getD_eq_getElem?_getD, el, Option.getD_some] at fl
        have ln : ((((oneL k).take i).flatMap (qsOf k)).map quV).length + ((qsOf k l).map quV).length ≤ sizeLine := by
          have e2 : (((oneL k).take i).flatMap (qsOf k)).length + (qsOf k l).length = (((oneL k).take (i + 1)).flatMap (qsOf k)).length := by rw [← fl, List.length_append]
          have : (((oneL k).take (i + 1)).flatMap (qsOf k)).length ≤ 100 := by
            clear hc fl e2 row el el' K
            have il7 : i < 7 := by
              have : (oneL k).length ≤ 7 := by rcases three h1 h3 with rfl | rfl | rfl <;> decide
              omega
            have i7 : i = 0 ∨ i = 1 ∨ i = 2 ∨ i = 3 ∨ i = 4 ∨ i = 5 ∨ i = 6 := by omega
            rcases three h1 h3 with rfl | rfl | rfl <;> rcases i7 with rfl | rfl | rfl | rfl | rfl | rfl | rfl <;> decide
          rw [List.length_map, List.length_map]; omega
        refine ⟨_, _, _, hc, by simp only [goExt, asM]; rw [if_pos ln], ?_⟩
        refine ⟨_, rfl, ?_, K.set (.inl (Nat.le_refl _)) _⟩
        rw [st_set hc, if_pos rfl, ← fl, List.map_append]
    · obtain ⟨x3, rfl, hc, K⟩ := hI
      have ll : 0 + (List.map lotV ((lotsL k).filter fun l => !l.isEmpty)).length = (oneL k).length := by rw [Nat.zero_add, List.length_map]; rfl
      rw [ll, List.take_length, qs_all h1 h3] at hc
      rw [nxK_nx]
      rw [ok_ret, ok_frz, ok_var]
      refine ⟨_, rfl, ?_⟩
      rw [frzK_own, hc]
      exact ⟨rfl, K.set (.inl (Nat.le_refl _)) _⟩
end Lq
end
section
set_option Elab.async false
set_option linter.all false
set_option maxRecDepth 100000
namespace Lq
open PySem PySem.Spec PyProof.Rows L2
open Sx (at0 si)
def wtsL (k : Nat) (told : List Cp) : List Wt := (agL k told).map (·.2)
theorem pl_some (ws : List Wt) : Pl (someV ws) := pl_tupM (F := tI) (fun w => dOk_tI 58 w) ws
theorem peq_some (a b : List Wt) : peq (someV a) (someV b) = decide (a = b) := by
  unfold someV
  rw [peq]
  exact peqs_map peq_tI a b
theorem weights_left_sp {k : Nat} {told : List Cp} (h1 : 1 ≤ k) (h3 : k ≤ 3) (h : Valid k told) (hl : told.length ≤ 8) (ne : wtsL k told ≠ []) (st : Store) : Ok (p_weights_left [.int (k : Int), toldV told] st) fun v s => v = someV (wtsL k told) ∧ Keeps [] st s := by
  have sz := szl
  (unfold p_weights_left runF; rw [ok_retF]; simp only [env0, List.map_cons, List.map_nil, List.length_cons, List.length_nil, Nat.reduceAdd, Nat.reduceSub, List.reduceReplicate, List.cons_append, List.nil_append])
  simp only [wkA, List.set_cons_zero, List.set_cons_succ, Option.some.injEq, exists_eq_left', exists_eq_left, List.length_cons, List.length_nil, Nat.reduceAdd, Nat.reduceLeDiff, true_and, and_true, if_true, Bool.not_true, Bool.not_false, Bool.false_eq_true, if_false, decide_eq_true_eq, List.cons.injEq, ↓reduceIte]
  refine (found_agreeing_sp h1 h3 h hl st).mono fun v s hv => ?_
  obtain ⟨rfl, K⟩ := hv
  refine ⟨_, rfl, ?_⟩
  refine ok_mapE (fun e : En => PV.tup [ordV e.1, tI e.2]) (fun e => tI e.2) (fun e he => ?_) ?_
  · simp only [wipeE]
    simp only [wkA, List.set_cons_zero, List.set_cons_succ, Option.some.injEq, exists_eq_left', exists_eq_left, List.length_cons, List.length_nil, Nat.reduceAdd, Nat.reduceLeDiff, true_and, and_true, if_true, Bool.not_true, Bool.not_false, Bool.false_eq_true, if_false, decide_eq_true_eq, List.cons.injEq, ↓reduceIte]
  · have e : (agL k told).map (fun e : En => tI e.2) = (wtsL k told).map tI := by unfold wtsL; rw [List.map_map]; rfl
    refine Op.of (z := someV (wtsL k told)) (by show some (PV.tup ((agL k told).map fun e : En => tI e.2)) = _; rw [e]; rfl) ?_
    rw [nxK_nx]
    simp only [wkA, List.set_cons_zero, List.set_cons_succ, Option.some.injEq, exists_eq_left', exists_eq_left, List.length_cons, List.length_nil, Nat.reduceAdd, Nat.reduceLeDiff, true_and, and_true, if_true, Bool.not_true, Bool.not_false, Bool.false_eq_true, if_false, decide_eq_true_eq, List.cons.injEq, ↓reduceIte]
    refine Op.of (z := .bl false) ?_ ?_
    · show oEq (someV (wtsL k told)) (someV []) s = _
      rw [oEq_pl (pl_some _) (pl_some _), peq_some, decide_eq_false ne]
    · simp only [Bool.false_eq_true, if_false]
      rw [nxK_nx]
      simp only [wkA, List.set_cons_zero, List.set_cons_succ, Option.some.injEq, exists_eq_left', exists_eq_left, List.length_cons, List.length_nil, Nat.reduceAdd, Nat.reduceLeDiff, true_and, and_true, if_true, Bool.not_true, Bool.not_false, Bool.false_eq_true, if_false, decide_eq_true_eq, List.cons.injEq, ↓reduceIte]
      exact K
def sepL (k : Nat) (w w' : Wt) : Bool := (qsL k).any fun q => decide (ansA q w ≠ ansA q w')
theorem sep_tab {k : Nat} (h1 : 1 ≤ k) (h3 : k ≤ 3) : ((entsL k).map (·.2)).Pairwise fun a b => sepL k a b = true := by
  rcases three h1 h3 with rfl | rfl | rfl <;> decide +kernel
structure Apt (k : Nat) (ws : List Wt) : Prop where
  ne : ws ≠ []
  sep : ws.Pairwise fun a b => sepL k a b = true
  wl : ∀ w, w ∈ ws → w.length = k
  len : ws.length ≤ 64
theorem apt_wts {k : Nat} {told : List Cp} (h1 : 1 ≤ k) (h3 : k ≤ 3) (ne : wtsL k told ≠ []) : Apt k (wtsL k told) := by
  have sub : List.Sublist (wtsL k told) ((entsL k).map (·.2)) := List.filter_sublist.map _
  refine ⟨ne, (sep_tab h1 h3).sublist sub, fun w hw => ?_, ?_⟩
  · obtain ⟨e, he, rfl⟩ := List.mem_map.mp (sub.subset hw)
    exact (ents_wl he).1
  · have := sub.length_le
    have := ents_len h1 h3
    rw [List.length_map] at *
    omega
theorem Apt.sub {k : Nat} {ws us : List Wt} (h : Apt k ws) (hs : List.Sublist us ws) (ne : us ≠ []) : Apt k us :=
  ⟨ne, h.sep.sublist hs, fun w hw => h.wl w (hs.subset hw), Nat.le_trans hs.length_le h.len⟩
theorem part_mem {ws : List Wt} {q : Qn} {p : An × List Wt} (h : p ∈ partsL ws q) : p.2 = selA q p.1 ws ∧ p.2 ≠ [] ∧ List.Sublist p.2 ws := by
  unfold partsL at h
  obtain ⟨a, ha, rfl⟩ := List.mem_map.mp h
  have := (List.mem_filter.mp ha).2
  refine ⟨rfl, fun e => ?_, List.filter_sublist⟩
  have e' : selA q a ws = [] := e
  rw [e'] at this
  cases this
theorem parts_len (ws : List Wt) (q : Qn) : (partsL ws q).length = ans3L.countP fun a => !(selA q a ws).isEmpty := by
  unfold partsL; rw [List.length_map, List.countP_eq_length_filter]
theorem parts_le (ws : List Wt) (q : Qn) : (partsL ws q).length ≤ 3 := by
  rw [parts_len]; exact List.countP_le_length
theorem sel_mono {q : Qn} {a : An} {us ws : List Wt} (h : ∀ w, w ∈ us → w ∈ ws) (ne : selA q a us ≠ []) : selA q a ws ≠ [] := by
  obtain ⟨w, hw⟩ := List.exists_mem_of_ne_nil _ ne
  obtain ⟨m, e⟩ := List.mem_filter.mp hw
  exact List.ne_nil_of_mem (List.mem_filter.mpr ⟨h w m, e⟩)
theorem parts_mono {q : Qn} {us ws : List Wt} (h : ∀ w, w ∈ us → w ∈ ws) : (partsL us q).length ≤ (partsL ws q).length := by
  rw [parts_len, parts_len]
  refine List.countP_mono_left fun a _ ha => ?_
  have : selA q a us ≠ [] := fun e => by simp [e] at ha
  have := sel_mono h this
  simp [this]
theorem parts_one {q : Qn} {a : An} {ws : List Wt} : (partsL (selA q a ws) q).length ≤ 1 := by
  rw [parts_len]
  have e : ∀ b, b ≠ a → selA q b (selA q a ws) = [] := by
    intro b hb
    unfold selA
    rw [List.filter_eq_nil_iff]
    intro w hw
    have := (List.mem_filter.mp hw).2
    rw [decide_eq_true_eq] at this
    rw [decide_eq_true_eq, this]
    exact fun z => hb z.symm
  have : ans3L.countP (fun b => !(selA q b (selA q a ws)).isEmpty) ≤ ans3L.countP (fun b => decide (b = a)) := by
    refine List.countP_mono_left fun b _ hb => ?_
    apply decide_eq_true
    apply Classical.byContradiction
    intro hn
    rw [e b hn] at hb
    cases hb
  refine Nat.le_trans this ?_
  cases a <;> decide
def splB (ws : List Wt) (q : Qn) : Bool := decide (1 < (partsL ws q).length)
def splN (k : Nat) (ws : List Wt) : Nat := (qsL k).countP (splB ws)
theorem splN_le (k : Nat) (ws : List Wt) : splN k ws ≤ 6 := Nat.le_trans List.countP_le_length (qs_len k)
theorem spl_lt {k : Nat} {ws : List Wt} {q : Qn} {p : An × List Wt} (hq : q ∈ qsL k) (hs : splB ws q = true) (hp : p ∈ partsL ws q) : splN k p.2 < splN k ws := by
  obtain ⟨e, ne, sub⟩ := part_mem hp
  have imp : ∀ x, x ∈ qsL k → splB p.2 x = true → splB ws x = true := by
    intro x _ hx
    unfold splB at hx ⊢
    rw [decide_eq_true_eq] at hx ⊢
    have := parts_mono (q := x) (fun w hw => sub.subset hw : ∀ w, w ∈ p.2 → w ∈ ws)
    omega
  have no : splB p.2 q = false := by
    unfold splB
    rw [decide_eq_false_iff_not, e]
    have := parts_one (q := q) (a := p.1) (ws := ws)
    omega
  unfold splN
  have key : ∀ l : List Qn, (∀ x, x ∈ l → splB p.2 x = true → splB ws x = true) → q ∈ l → l.countP (splB p.2) < l.countP (splB ws) := by
    intro l
    induction l with
    | nil => intro _ h; cases h
    | cons x r ih =>
      intro hi hm
      have le : r.countP (splB p.2) ≤ r.countP (splB ws) := List.countP_mono_left fun y hy => hi y (List.mem_cons_of_mem _ hy)
      rw [List.countP_cons, List.countP_cons]
      rcases List.mem_cons.mp hm with rfl | hm
      · rw [no, hs]
        simp; omega
      · have := ih (fun y hy => hi y (List.mem_cons_of_mem _ hy)) hm
        have hx := hi x List.mem_cons_self
        cases a : splB p.2 x with
        | false => simp; split <;> omega
        | true => rw [hx a]; simp; omega
  exact key _ imp hq
theorem spl_pos {k : Nat} {ws : List Wt} (h : Apt k ws) (hl : ws.length ≠ 1) : ∃ q, q ∈ qsL k ∧ splB ws q = true := by
  match ws, h, hl with
  | [], h, _ => exact absurd rfl h.ne
  | [a], _, hl => exact absurd rfl hl
  | a :: b :: r, h, _ =>
    have sp := List.rel_of_pairwise_cons h.sep (List.mem_cons_self (a := b))
    unfold sepL at sp
    rw [List.any_eq_true] at sp
    obtain ⟨q, hq, hne⟩ := sp
    rw [decide_eq_true_eq] at hne
    refine ⟨q, hq, ?_⟩
    unfold splB
    rw [decide_eq_true_eq, parts_len]
    have na : selA q (ansA q a) (a :: b :: r) ≠ [] := List.ne_nil_of_mem (a := a) (List.mem_filter.mpr ⟨by simp, by simp⟩)
    have nb : selA q (ansA q b) (a :: b :: r) ≠ [] := List.ne_nil_of_mem (a := b) (List.mem_filter.mpr ⟨by simp, by simp⟩)
    have : ans3L.countP (fun x => decide (x = ansA q a) || decide (x = ansA q b)) ≤ ans3L.countP (fun x => !(selA q x (a :: b :: r)).isEmpty) := by
      refine List.countP_mono_left fun x _ hx => ?_
      rw [Bool.or_eq_true, decide_eq_true_eq, decide_eq_true_eq] at hx
      rcases hx with rfl | rfl
      · simp [na]
      · simp [nb]
    refine Nat.lt_of_lt_of_le ?_ this
    generalize ansA q a = x at hne
    generalize ansA q b = y at hne
    cases x <;> cases y <;> first | exact absurd rfl hne | decide
def maxL : List Int → Int
  | [] => 0
  | n :: ns => maxI n ns
def minL : List Int → Int
  | [] => 0
  | n :: ns => minI n ns
def fewN (k : Nat) : Nat → List Wt → Int
  | 0, _ => 0
  | n + 1, ws => if ws.length = 1 then 0 else minL (((qsL k).filter (splB ws)).map fun q => 1 + maxL ((partsL ws q).map fun p => fewN k n p.2))
theorem few_same {k : Nat} : ∀ (n m : Nat) (ws : List Wt), splN k ws < n → splN k ws < m → fewN k n ws = fewN k m ws
  | 0, _, _, h, _ => by omega
  | _ + 1, 0, _, _, h => by omega
  | n + 1, m + 1, ws, hn, hm => by
    rw [fewN, fewN]
    split
    · rfl
    · congr 1
      refine List.map_congr_left fun q hq => ?_
      congr 2
      refine List.map_congr_left fun p hp => ?_
      obtain ⟨a, b⟩ := List.mem_filter.mp hq
      have := spl_lt a b hp
      exact few_same n m p.2 (by omega) (by omega)
def fewF (k : Nat) (ws : List Wt) : Int := fewN k 7 ws
def costF (k : Nat) (ws : List Wt) (q : Qn) : Int := 1 + maxL ((partsL ws q).map fun p => fewF k p.2)
theorem few_eq (k : Nat) (ws : List Wt) : fewF k ws = if ws.length = 1 then 0 else minL (((qsL k).filter (splB ws)).map (costF k ws)) := by
  have := splN_le k ws
  unfold fewF
  rw [few_same 7 8 ws (by omega) (by omega), fewN]
  rfl
def fewB (rec : Fn) : Fn := runF 8
    (sSeq (sIf (tE (eBin oEq (eCB oLen (aCons (eVar 1) aNil)) (eC (.int 1)))) (sRet (eC (.int 0))) sNil)
    (sSeq (sIf (tE (eBin oNinN (eVar 1) (eVar 2))) (sSeq (sSet 3 (eOw (fDisp aNil)))
    (sSeq (sFor (iVal (eVar 0)) (gNm 4) (sSeq (sSet 5 (eCall 2 p_parted (aCons (eVar 1) (aCons (eVar 4) aNil))))
    (sIf (tE (eBin oGtI (eCB oLen (aCons (eVar 5) aNil)) (eC (.int 1)))) (sDrop (eLm goApp (eVar 3) (aCons (eBin oAdd (eC (.int 1)) (eCB oMax (aCons (eFz (fComp (iVal (eVar 5)) (gTp 2 (gsCons (gNm 6) (gsCons (gNm 7) gsNil))) (fun _ st => .ok true st) (eCall 3 rec (aCons (eVar 0) (aCons (eVar 7) (aCons (eVar 2) aNil)))) [6, 7])) aNil))) aNil))) sNil)))
    (sAsg (eCB oMin (aCons (eFrz (eVar 3)) aNil)) (gSubN (eVar 2) (eVar 1))))) sNil)
    (sRet (eNget (eVar 2) (eVar 1)))))
theorem few_r1 : p_fewest_for_r1 = fewB p_fewest_for_r0 := rfl
theorem few_r2 : p_fewest_for_r2 = fewB p_fewest_for_r1 := rfl
theorem few_r3 : p_fewest_for_r3 = fewB p_fewest_for_r2 := rfl
theorem few_r4 : p_fewest_for_r4 = fewB p_fewest_for_r3 := rfl
theorem few_r5 : p_fewest_for_r5 = fewB p_fewest_for_r4 := rfl
theorem few_r6 : p_fewest_for_r6 = fewB p_fewest_for_r5 := rfl
theorem few_r7 : p_fewest_for = fewB p_fewest_for_r6 := rfl
def bud : Nat → Nat
  | 0 => 0
  | n + 1 => 1 + 3 * (n + 1) * bud n
theorem bud_mono : ∀ {a b : Nat}, a ≤ b → bud a ≤ bud b
  | 0, _, _ => Nat.zero_le _
  | a + 1, 0, h => by omega
  | a + 1, b + 1, h => by
    have i := bud_mono (a := a) (b := b) (by omega)
    rw [bud, bud]
    have : 3 * (a + 1) * bud a ≤ 3 * (b + 1) * bud b := Nat.mul_le_mul (by omega) i
    omega
def KnD (k : Nat) (kvs : List (PV × PV)) : Prop := ∀ kv, kv ∈ kvs → ∃ ws, kv = (someV ws, .int (fewF k ws))
theorem kn_look {k : Nat} {ws : List Wt} {v : PV} : ∀ {kvs : List (PV × PV)}, KnD k kvs → dLook kvs (someV ws) = some v → v = .int (fewF k ws)
  | [], _, h => by cases h
  | kv :: r, H, h => by
    obtain ⟨us, rfl⟩ := H kv List.mem_cons_self
    unfold dLook at h
    rw [List.find?_cons, peq_some] at h
    by_cases z : us = ws
    · subst z
      simp at h
      exact h.symm
    · rw [decide_eq_false z] at h
      exact kn_look (fun x hx => H x (List.mem_cons_of_mem _ hx)) h
theorem kn_put {k : Nat} {ws : List Wt} {kvs : List (PV × PV)} (H : KnD k kvs) : KnD k (dPut kvs (someV ws) (.int (fewF k ws))) := by
  unfold dPut
  split
  · intro kv hkv
    obtain ⟨x, hx, rfl⟩ := List.mem_map.mp hkv
    obtain ⟨us, rfl⟩ := H x hx
    rw [peq_some]
    by_cases z : us = ws
    · subst z; rw [decide_eq_true rfl, if_pos rfl]; exact ⟨us, rfl⟩
    · rw [decide_eq_false z, if_neg Bool.false_ne_true]; exact ⟨us, rfl⟩
  · intro kv hkv
    rcases List.mem_append.mp hkv with h | h
    · exact H kv h
    · rw [List.mem_singleton.mp h]; exact ⟨ws, rfl⟩
theorem look_put {kvs : List (PV × PV)} {ws : List Wt} {v : PV} : dLook (dPut kvs (someV ws) v) (someV ws) = some v := by
  have pr : peq (someV ws) (someV ws) = true := by rw [peq_some]; simp
  unfold dPut
  split
  · rename_i h
    clear pr
    induction kvs with
    | nil => cases h
    | cons kv r ih =>
      unfold dLook
      rw [List.map_cons, List.find?_cons]
      cases p : peq kv.1 (someV ws) with
      | true => simp [p]
      | false =>
        rw [List.any_cons, p, Bool.false_or] at h
        have := ih h
        unfold dLook at this
        simp only [Bool.false_eq_true, if_false, p]
        exact this
  · rename_i h
    have : kvs.find? (fun kv => peq kv.1 (someV ws)) = none := by
      rw [List.find?_eq_none]
      intro x hx hp
      exact h (List.any_eq_true.mpr ⟨x, hx, hp⟩)
    unfold dLook
    rw [List.find?_append, this]
    simp [pr]
theorem len_some (ws : List Wt) (s : Store) : oLen [someV ws] s = some (.int (ws.length : Int)) := by simp [oLen, someV, asS]
theorem len_parts (ps : List (An × List Wt)) (s : Store) : oLen [.lst (ps.map partV)] s = some (.int (ps.length : Int)) := by simp only [oLen, asS, asL, List.length_map]
theorem max_ints {ns : List Int} (h : ns ≠ []) (s : Store) : oMax [.lst (ns.map PV.int)] s = some (.int (maxL ns)) := by
  cases ns with
  | nil => exact absurd rfl h
  | cons n r =>
    have : asInts ((n :: r).map PV.int) = some (n :: r) := asInts_nI _
    simp only [oMax, asL, this]; rfl
theorem min_ints {ns : List Int} (h : ns ≠ []) (s : Store) : oMin [.lst (ns.map PV.int)] s = some (.int (minL ns)) := by
  cases ns with
  | nil => exact absurd rfl h
  | cons n r =>
    have : asInts ((n :: r).map PV.int) = some (n :: r) := asInts_nI _
    simp only [oMin, asL, this]; rfl
def IvK (k c : Nat) (st : Store) (m : Nat) (s : Store) : Prop := (∃ kvs, s[c]? = some (.dcn kvs) ∧ KnD k kvs ∧ kvs.length ≤ m) ∧ Keeps [c] st s
theorem IvK.keep {k c m : Nat} {st s s' : Store} (h : IvK k c st m s) (K : Keeps [] s s') : IvK k c st m s' := by
  obtain ⟨⟨kvs, a, b, d⟩, K0⟩ := h
  exact ⟨⟨kvs, keeps_get K a (by simp), b, d⟩, K0.trans ⟨K.1, fun i hi hn => K.2 i hi (by simp)⟩⟩
theorem IvK.mono {k c m m' : Nat} {st s : Store} (h : IvK k c st m s) (l : m ≤ m') : IvK k c st m' s := by
  obtain ⟨⟨kvs, a, b, d⟩, K0⟩ := h
  exact ⟨⟨kvs, a, b, by omega⟩, K0⟩
def FewS (k : Nat) (f : Fn) (ws : List Wt) : Prop := ∀ (st s : Store) (c m : Nat), c < st.length → IvK k c st m s → m + bud (splN k ws) < 16000000 → Ok (f [.lst ((qsL k).map quV), someV ws, .own c] s) fun v s' => v = .int (fewF k ws) ∧ IvK k c st (m + bud (splN k ws)) s' ∧ Keeps [c] s s'
theorem few_parts {k : Nat} {rec : Fn} {ps : List (An × List Wt)} {b : Nat} (IH : ∀ p, p ∈ ps → FewS k rec p.2 ∧ bud (splN k p.2) ≤ b) {env : Ev} {st s : Store} {c m : Nat} (hc : c < st.length) (I : IvK k c st m s) (hm : m + ps.length * b < 16000000) {L : List PV → Store → Prop}
    (e0 : ∀ x y, ((env.set 6 x).set 7 y)[0]? = some (some (.lst ((qsL k).map quV))) ∧ ((env.set 6 x).set 7 y)[7]? = some y ∧ ((env.set 6 x).set 7 y)[2]? = some (some (.own c)))
    (h : ∀ s', IvK k c st (m + ps.length * b) s' → Keeps [c] s s' → L (ps.map fun p => .int (fewF k p.2)) s') :
    Ok (compV (gTp 2 (gsCons (gNm 6) (gsCons (gNm 7) gsNil))) (fun _ st => .ok true st) (eCall 3 rec (aCons (eVar 0) (aCons (eVar 7) (aCons (eVar 2) aNil)))) env (ps.map partV) s) L := by
  refine ok_compV (fun i pre s' => pre = (ps.take i).map (fun p => PV.int (fewF k p.2)) ∧ IvK k c st (m + i * b) s' ∧ Keeps [c] s s') _ 0 [] _ ?_ ⟨by simp, by simpa using I, Keeps.refl _ _⟩ ?_
  · rintro i x hx pre s' ⟨rfl, I', K'⟩
    rw [Nat.zero_add] at I' ⊢
    rw [List.getElem?_map] at hx
    cases el : ps[i]? with
    | none => rw [el] at hx; cases hx
    | some p =>
      rw [el] at hx
      cases hx
      have pm := List.mem_of_getElem? el
      have il : i < ps.length := (List.getElem?_eq_some_iff.mp el).1
      have nx : ps.take (i + 1) = ps.take i ++ [p] := by rw [List.take_add_one, el]; rfl
      obtain ⟨F, hb⟩ := IH p pm
      unfold partV
      rw [ok_gTp]
      refine ⟨rfl, ?_⟩
      rw [ok_gsCons, ok_gNm, ok_gsCons, ok_gNm, ok_gsNil, ok_ok]
      simp only [if_true]
      obtain ⟨e1, e2, e3⟩ := e0 (some (.str p.1.s)) (some (someV p.2))
      rw [ok_call, ok_aCons, ok_var]
      refine ⟨_, e1, ?_⟩
      rw [ok_aCons, ok_var]
      refine ⟨_, e2, ?_⟩
      rw [ok_aCons, ok_var]
      refine ⟨_, e3, ?_⟩
      rw [ok_aNil]
      refine ⟨rfl, ?_⟩
      have ib : i * b + b ≤ ps.length * b := by
        have : (i + 1) * b ≤ ps.length * b := Nat.mul_le_mul_right _ (by omega)
        rw [Nat.add_mul] at this; omega
      refine (F st s' c _ hc I' (by omega)).mono fun v s2 hv => ?_
      obtain ⟨rfl, I2, K2⟩ := hv
      refine ⟨by rw [nx, List.map_append]; rfl, I2.mono ?_, K'.trans K2⟩
      rw [Nat.add_mul]; omega
  · rintro all s' ⟨e, I', K'⟩
    rw [Nat.zero_add, List.length_map, List.take_length, List.nil_append] at e
    rw [Nat.zero_add, List.length_map] at I'
    subst e
    exact h s' I' K'
end Lq
end
section
set_option Elab.async false
set_option linter.all false
set_option maxRecDepth 100000
namespace Lq
open PySem PySem.Spec PyProof.Rows L2
open Sx (at0 si)
theorem nk_someV (ws : List Wt) : ∃ j, nkD (someV ws) = some j := nk_some ws
theorem parts_ne {ws : List Wt} {q : Qn} (h : splB ws q = true) : partsL ws q ≠ [] := by
  unfold splB at h
  rw [decide_eq_true_eq] at h
  intro e
  rw [e] at h
  simp at h
theorem bud_pos {n : Nat} (h : 0 < n) : bud n = 1 + 3 * n * bud (n - 1) := by
  obtain ⟨m, rfl⟩ : ∃ m, n = m + 1 := ⟨n - 1, by omega⟩
  rw [bud]; rfl
theorem cnt_take {k : Nat} {ws : List Wt} {i : Nat} : ((qsL k).take i).countP (splB ws) ≤ splN k ws := by
  unfold splN
  conv => rhs; rw [← List.take_append_drop i (qsL k)]
  rw [List.countP_append]
  omega
theorem Keeps.weak {ex : List Nat} {s s' : Store} (K : Keeps [] s s') : Keeps ex s s' := ⟨K.1, fun i hi _ => K.2 i hi (by simp)⟩
theorem few_step {k n : Nat} (h1 : 1 ≤ k) (h3 : k ≤ 3) {rec : Fn} (IH : ∀ ws, Apt k ws → splN k ws < n → FewS k rec ws) : ∀ ws, Apt k ws → splN k ws < n + 1 → FewS k (fewB rec) ws := by
  intro ws A hn st s c m hc I hm
  have sz := szl
  have ql := qs_len k
  (unfold fewB runF; rw [ok_retF]; simp only [env0, List.map_cons, List.map_nil, List.length_cons, List.length_nil, Nat.reduceAdd, Nat.reduceSub, List.reduceReplicate, List.cons_append, List.nil_append])
  simp only [wkA, List.set_cons_zero, List.set_cons_succ, Option.some.injEq, exists_eq_left', exists_eq_left, List.length_cons, List.length_nil, Nat.reduceAdd, Nat.reduceLeDiff, true_and, and_true, if_true, Bool.not_true, Bool.not_false, Bool.false_eq_true, if_false, decide_eq_true_eq, List.cons.injEq, ↓reduceIte]
  refine Op.of (len_some ws _) ?_
  simp only [oEq_int, op_some]
  by_cases l1 : ws.length = 1
  · rw [l1]
    simp only [Int.cast_ofNat_Int, BEq.rfl, if_true]
    rw [few_eq, if_pos l1]
    exact ⟨rfl, I.mono (by omega), Keeps.refl _ _⟩
  · have nb : ((ws.length : Int) == 1) = false := by simp; omega
    rw [nb]
    simp only [Bool.false_eq_true, if_false]
    rw [nxK_nx]
    simp only [wkA, List.set_cons_zero, List.set_cons_succ, Option.some.injEq, exists_eq_left', exists_eq_left, List.length_cons, List.length_nil, Nat.reduceAdd, Nat.reduceLeDiff, true_and, and_true, if_true, Bool.not_true, Bool.not_false, Bool.false_eq_true, if_false, decide_eq_true_eq, List.cons.injEq, ↓reduceIte]
    obtain ⟨⟨kvs, hk, kn, kl⟩, K0⟩ := I
    obtain ⟨nk, enk⟩ := nk_someV ws
    refine Op.of (z := .bl (!(dLook kvs (someV ws)).isSome)) (by simp only [oNinN, dcnOf_own hk, enk]) ?_
    simp only
    cases lk : dLook kvs (someV ws) with
    | some v =>
      simp only [Option.isSome_some, Bool.not_true, Bool.false_eq_true, if_false]
      rw [nxK_nx]
      rw [ok_ret]
      refine ok_nget ?_
      simp only [wkA, List.set_cons_zero, List.set_cons_succ, Option.some.injEq, exists_eq_left', exists_eq_left, List.length_cons, List.length_nil, Nat.reduceAdd, Nat.reduceLeDiff, true_and, and_true, if_true, Bool.not_true, Bool.not_false, Bool.false_eq_true, if_false, decide_eq_true_eq, List.cons.injEq, ↓reduceIte]
      exact ⟨_, _, _, dcnOf_own hk, enk, lk, kn_look kn lk, ⟨⟨kvs, hk, kn, by omega⟩, K0⟩, Keeps.refl _ _⟩
    | none =>
      simp only [Option.isSome_none, Bool.not_false, if_true]
      obtain ⟨q0, hq0, sq0⟩ := spl_pos A l1
      have sp : 0 < splN k ws := List.countP_pos_iff.mpr ⟨q0, hq0, sq0⟩
      have bp := bud_pos sp
      have sl6 := splN_le k ws
      rw [nxK_nx]
      simp only [wkA, List.set_cons_zero, List.set_cons_succ, Option.some.injEq, exists_eq_left', exists_eq_left, List.length_cons, List.length_nil, Nat.reduceAdd, Nat.reduceLeDiff, true_and, and_true, if_true, Bool.not_true, Bool.not_false, Bool.false_eq_true, if_false, decide_eq_true_eq, List.cons.injEq, ↓reduceIte]
      refine ⟨_, rfl, ?_⟩
      have cl : c < s.length := (List.getElem?_eq_some_iff.mp hk).1
      have hk1 : (s ++ [Cell.lst []])[c]? = some (.dcn kvs) := by rw [List.getElem?_append_left cl]; exact hk
      have I1 : IvK k c st m (s ++ [Cell.lst []]) := ⟨⟨kvs, hk1, kn, kl⟩, K0.trans (Keeps.app _ _ _)⟩
      generalize hB : 3 * bud (splN k ws - 1) = B at *
      have sB : splN k ws * B + 1 = bud (splN k ws) := by rw [bp, ← hB, Nat.mul_comm 3 (splN k ws), Nat.mul_assoc]; omega
      refine ok_loop (fun i env s' => ∃ x4 x5, env = [some (.lst ((qsL k).map quV)), some (someV ws), some (.own c), some (.own s.length), x4, x5, none, none] ∧ s'[s.length]? = some (.lst (((((qsL k).take i).filter (splB ws)).map (costF k ws)).map PV.int)) ∧ IvK k c st (m + ((qsL k).take i).countP (splB ws) * B) s' ∧ Keeps [c] s s') _ 0 _ _ (fun i x hx env s' hI => ?_)
        ⟨_, _, rfl, own_new _ _, by simpa using I1, Keeps.app _ _ _⟩ fun env s' hI => ?_
      · obtain ⟨x4, x5, rfl, hd, I', K'⟩ := hI
        rw [Nat.zero_add] at hd I' ⊢
        rw [List.getElem?_map] at hx
        cases el : (qsL k)[i]? with
        | none => rw [el] at hx; cases hx
        | some q =>
          rw [el] at hx
          cases hx
          have qm := List.mem_of_getElem? el
          obtain ⟨qo, qt⟩ := qs_lot h1 h3 q qm
          have nx : (qsL k).take (i + 1) = (qsL k).take i ++ [q] := by rw [List.take_add_one, el]; rfl
          have ct := cnt_take (k := k) (ws := ws) (i := i + 1)
          rw [nx, List.countP_append] at ct
          simp only [wkA, List.set_cons_zero, List.set_cons_succ, Option.some.injEq, exists_eq_left', exists_eq_left, List.length_cons, List.length_nil, Nat.reduceAdd, Nat.reduceLeDiff, true_and, and_true, if_true, Bool.not_true, Bool.not_false, Bool.false_eq_true, if_false, decide_eq_true_eq, List.cons.injEq, ↓reduceIte]
          refine (parted_sp A.ne A.wl (by have := A.len; omega) qo qt s').mono fun v s1 hv => ?_
          obtain ⟨rfl, K1⟩ := hv
          have hd1 := keeps_get K1 hd (by simp)
          have I1' := I'.keep K1
          rw [nxK_nx]
          simp only [wkA, List.set_cons_zero, List.set_cons_succ, Option.some.injEq, exists_eq_left', exists_eq_left, List.length_cons, List.length_nil, Nat.reduceAdd, Nat.reduceLeDiff, true_and, and_true, if_true, Bool.not_true, Bool.not_false, Bool.false_eq_true, if_false, decide_eq_true_eq, List.cons.injEq, ↓reduceIte]
          refine Op.of (len_parts _ _) ?_
          have gt : oGtI (.int ((partsL ws q).length : Int)) (.int 1) s1 = some (.bl (splB ws q)) := by
            unfold splB
            simp only [oGtI, oI]
            congr 2
            rw [decide_eq_decide]; omega
          refine Op.of gt ?_
          simp only
          cases sb : splB ws q with
          | false =>
            simp only [Bool.false_eq_true, if_false]
            refine ⟨_, _, ⟨rfl, rfl⟩, ?_, ?_, K'.trans ⟨K1.1, fun i hi hn => K1.2 i hi (by simp)⟩⟩
            · rw [nx, List.filter_append, show [q].filter (splB ws) = [] by simp [sb], List.append_nil]; exact hd1
            · rw [nx, List.countP_append]; simp [sb]; exact I1'
          | true =>
            simp only [if_true]
            have pl3 := parts_le ws q
            have bm : ∀ p, p ∈ partsL ws q → FewS k rec p.2 ∧ bud (splN k p.2) ≤ bud (splN k ws - 1) := fun p hp => by
              have lt := spl_lt qm sb hp
              obtain ⟨_, ne, sub⟩ := part_mem hp
              exact ⟨IH p.2 (A.sub sub ne) (by omega), bud_mono (by omega)⟩
            have c1 : [q].countP (splB ws) = 1 := by simp [sb]
            have lenB : (partsL ws q).length * bud (splN k ws - 1) ≤ B := by rw [← hB]; exact Nat.mul_le_mul_right _ pl3
            have cB : ((qsL k).take i).countP (splB ws) * B + B ≤ splN k ws * B := by
              rw [c1] at ct
              have : (((qsL k).take i).countP (splB ws) + 1) * B ≤ splN k ws * B := Nat.mul_le_mul_right _ ct
              rw [Nat.add_mul] at this; omega
            refine ⟨_, _, rfl, hd1, ?_⟩
            refine ⟨_, rfl, ?_⟩
            refine few_parts bm hc I1' (by omega) (fun x y => ⟨rfl, rfl, rfl⟩) fun s2 I2 K2 => ?_
            have pne := parts_ne sb
            have mx : oMax [.lst ((partsL ws q).map fun p => PV.int (fewF k p.2))] s2 = some (.int (maxL ((partsL ws q).map fun p => fewF k p.2))) := by
              have := max_ints (ns := (partsL ws q).map fun p => fewF k p.2) (by simp [pne]) s2
              rw [List.map_map] at this
              exact this
            refine Op.of mx ?_
            simp only [oAdd_int, op_some]
            have hd2 := keeps_get K2 hd1 (by simp; omega)
            have cl2 : ((((qsL k).take i).filter (splB ws)).map (costF k ws)).length ≤ 6 := by
              rw [List.length_map]
              have := List.length_filter_le (splB ws) ((qsL k).take i)
              rw [List.length_take] at this
              omega
            refine ⟨_, _, _, hd2, by simp only [goApp]; rw [if_pos (by rw [List.length_map]; omega)], _, _, ⟨rfl, rfl⟩, ?_, ?_, ?_⟩
            · rw [st_set hd2, if_pos rfl, nx, List.filter_append, show [q].filter (splB ws) = [q] by simp [sb], List.map_append, List.map_append]
              rfl
            · obtain ⟨⟨kvs2, a, b, d⟩, K3⟩ := I2
              have ne : c ≠ s.length := by omega
              refine ⟨⟨kvs2, ?_, b, ?_⟩, K3.set (.inl (by have := K0.1; omega)) _⟩
              · rw [st_set hd2, if_neg ne]; exact a
              · rw [nx, List.countP_append, c1, Nat.add_mul]; omega
            · exact (K'.trans ((Keeps.weak K1).trans K2)).set (.inl (Nat.le_refl _)) _
      · obtain ⟨x4, x5, rfl, hd, I', K'⟩ := hI
        rw [Nat.zero_add, List.length_map, List.take_length] at hd I'
        rw [nxK_nx]
        rw [ok_asg, ok_cb, ok_aCons, ok_frz, ok_var]
        refine ⟨_, rfl, ?_⟩
        rw [frzK_own, hd]
        simp only
        rw [ok_aNil]
        have cne : ((qsL k).filter (splB ws)).map (costF k ws) ≠ [] := by
          have : q0 ∈ (qsL k).filter (splB ws) := List.mem_filter.mpr ⟨hq0, sq0⟩
          intro e
          rw [List.map_eq_nil_iff] at e
          rw [e] at this
          cases this
        refine Op.of (min_ints cne _) ?_
        have fe : minL (((qsL k).filter (splB ws)).map (costF k ws)) = fewF k ws := by rw [few_eq, if_neg l1]
        rw [fe]
        obtain ⟨⟨kvs2, a, b, d⟩, K3⟩ := I'
        have ne : c ≠ s.length := by omega
        have a2 : (s'.set s.length (.frz ((((qsL k).filter (splB ws)).map (costF k ws)).map PV.int)))[c]? = some (.dcn kvs2) := by rw [st_set hd, if_neg ne]; exact a
        have sN : (qsL k).countP (splB ws) = splN k ws := rfl
        rw [sN] at d
        refine ok_subN ?_
        simp only [wkA, List.set_cons_zero, List.set_cons_succ, Option.some.injEq, exists_eq_left', exists_eq_left, List.length_cons, List.length_nil, Nat.reduceAdd, Nat.reduceLeDiff, true_and, and_true, if_true, Bool.not_true, Bool.not_false, Bool.false_eq_true, if_false, decide_eq_true_eq, List.cons.injEq, ↓reduceIte]
        refine ⟨_, _, _, rfl, a2, enk, by omega, ?_⟩
        rw [nxK_nx]
        rw [ok_ret]
        refine ok_nget ?_
        simp only [wkA, List.set_cons_zero, List.set_cons_succ, Option.some.injEq, exists_eq_left', exists_eq_left, List.length_cons, List.length_nil, Nat.reduceAdd, Nat.reduceLeDiff, true_and, and_true, if_true, Bool.not_true, Bool.not_false, Bool.false_eq_true, if_false, decide_eq_true_eq, List.cons.injEq, ↓reduceIte]
        have a3 : ((s'.set s.length (.frz ((((qsL k).filter (splB ws)).map (costF k ws)).map PV.int))).set c (.dcn (dPut kvs2 (someV ws) (.int (fewF k ws)))))[c]? = some (.dcn (dPut kvs2 (someV ws) (.int (fewF k ws)))) := by rw [st_set a2, if_pos rfl]
        refine ⟨_, _, _, dcnOf_own a3, enk, look_put, rfl, ⟨⟨_, a3, kn_put b, ?_⟩, ?_⟩, ?_⟩
        · have := dPut_len kvs2 (someV ws) (.int (fewF k ws))
          omega
        · exact (K3.set (.inl (by have := K0.1; omega)) _).set (.inr (by simp)) _
        · exact (K'.set (.inl (Nat.le_refl _)) _).set (.inr (by simp)) _
theorem few_bar {k : Nat} {rec : Fn} : ∀ ws, Apt k ws → splN k ws < 0 → FewS k rec ws := fun _ _ h => absurd h (by omega)
theorem fewest_for_sp {k : Nat} (h1 : 1 ≤ k) (h3 : k ≤ 3) {ws : List Wt} (A : Apt k ws) : FewS k p_fewest_for ws := by
  have l1 := few_step h1 h3 (few_bar (rec := p_fewest_for_r0))
  rw [← few_r1] at l1
  have l2 := few_step h1 h3 l1
  rw [← few_r2] at l2
  have l3 := few_step h1 h3 l2
  rw [← few_r3] at l3
  have l4 := few_step h1 h3 l3
  rw [← few_r4] at l4
  have l5 := few_step h1 h3 l4
  rw [← few_r5] at l5
  have l6 := few_step h1 h3 l5
  rw [← few_r6] at l6
  have l7 := few_step h1 h3 l6
  rw [← few_r7] at l7
  exact l7 ws A (by have := splN_le k ws; omega)
end Lq
end
section
set_option Elab.async false
set_option linter.all false
set_option maxRecDepth 100000
namespace Lq
open PySem PySem.Spec PyProof.Rows L2
open Sx (at0 si)
theorem fewest_questions_sp {k : Nat} {told : List Cp} (h1 : 1 ≤ k) (h3 : k ≤ 3) (h : Valid k told) (hl : told.length ≤ 8) (ne : wtsL k told ≠ []) (st : Store) : Ok (p_fewest_questions [.int (k : Int), toldV told] st) fun v s => v = .int (fewF k (wtsL k told)) ∧ Keeps [] st s := by
  have A := apt_wts h1 h3 ne
  (unfold p_fewest_questions runF; rw [ok_retF]; simp only [env0, List.map_cons, List.map_nil, List.length_cons, List.length_nil, Nat.reduceAdd, Nat.reduceSub, List.reduceReplicate, List.cons_append, List.nil_append])
  simp only [wkA, List.set_cons_zero, List.set_cons_succ, Option.some.injEq, exists_eq_left', exists_eq_left, List.length_cons, List.length_nil, Nat.reduceAdd, Nat.reduceLeDiff, true_and, and_true, if_true, Bool.not_true, Bool.not_false, Bool.false_eq_true, if_false, decide_eq_true_eq, List.cons.injEq, ↓reduceIte]
  refine (weights_left_sp h1 h3 h hl ne st).mono fun v s1 hv => ?_
  obtain ⟨rfl, K1⟩ := hv
  rw [nxK_nx]
  simp only [wkA, List.set_cons_zero, List.set_cons_succ, Option.some.injEq, exists_eq_left', exists_eq_left, List.length_cons, List.length_nil, Nat.reduceAdd, Nat.reduceLeDiff, true_and, and_true, if_true, Bool.not_true, Bool.not_false, Bool.false_eq_true, if_false, decide_eq_true_eq, List.cons.injEq, ↓reduceIte]
  refine (all_questions_sp h1 h3 s1).mono fun v s2 hv => ?_
  obtain ⟨rfl, K2⟩ := hv
  rw [ok_dcn]
  have b6 : bud (splN k (wtsL k told)) ≤ bud 6 := bud_mono (splN_le _ _)
  have e6 : bud 6 = 207649 := by decide
  refine (fewest_for_sp h1 h3 A (s2 ++ [Cell.dcn []]) _ s2.length 0 (by simp) ⟨⟨[], own_new _ _, (fun _ z => by cases z), Nat.le_refl _⟩, Keeps.refl _ _⟩ (by omega)).mono fun v s3 hv => ?_
  obtain ⟨rfl, I3, K3⟩ := hv
  have K : Keeps [] s2 s3 := K3.sub (Keeps.app _ _ _) (fun i hi => by simp at hi; omega)
  exact ⟨rfl, K1.trans (K2.trans K)⟩
theorem maxL_mem {ns : List Int} (h : ns ≠ []) : maxL ns ∈ ns := by
  cases ns with
  | nil => exact absurd rfl h
  | cons n r => exact (maxI_spec n r).1
theorem minI_spec' : ∀ (m : Int) (l : List Int), minI m l ∈ m :: l ∧ ∀ y ∈ m :: l, minI m l ≤ y
  | m, [] => ⟨by simp [minI], by simp [minI]⟩
  | m, x :: r => by
    rw [minI]
    by_cases h : x < m
    · rw [if_pos h]
      obtain ⟨a, b⟩ := minI_spec' x r
      refine ⟨List.mem_cons_of_mem _ a, fun y hy => ?_⟩
      rcases List.mem_cons.mp hy with rfl | hy
      · have := b x List.mem_cons_self; omega
      · exact b y hy
    · rw [if_neg h]
      obtain ⟨a, b⟩ := minI_spec' m r
      refine ⟨?_, fun y hy => ?_⟩
      · rcases List.mem_cons.mp a with e | e
        · rw [e]; exact List.mem_cons_self
        · exact List.mem_cons_of_mem _ (List.mem_cons_of_mem _ e)
      · rcases List.mem_cons.mp hy with rfl | hy
        · exact b y List.mem_cons_self
        · rcases List.mem_cons.mp hy with rfl | hy
          · have := b m List.mem_cons_self; omega
          · exact b y (List.mem_cons_of_mem _ hy)
theorem minL_le {ns : List Int} {x : Int} (h : x ∈ ns) : minL ns ≤ x := by
  cases ns with
  | nil => cases h
  | cons n r => exact (minI_spec' n r).2 x h
theorem IvK.len {k c m : Nat} {st s : Store} (h : IvK k c st m s) : c < s.length := by
  obtain ⟨⟨kvs, a, _⟩, _⟩ := h
  exact (List.getElem?_eq_some_iff.mp a).1
end Lq
end
section
set_option Elab.async false
set_option linter.all false
set_option maxRecDepth 100000
namespace Lq
open PySem PySem.Spec PyProof.Rows L2
open Sx (at0 si)
end Lq
end
section
set_option Elab.async false
set_option linter.all false
set_option maxRecDepth 100000
namespace Lq
open PySem PySem.Spec PyProof.Rows L2
open Sx (at0 si)
section
variable {env : Ev} {st : Store} {T : PV → Store → Prop}
end
end Lq
end
section
set_option Elab.async false
set_option linter.all false
set_option maxRecDepth 100000
namespace Lq
open PySem PySem.Spec PyProof.Rows L2
open Sx (at0 si)
def p_fewest_further : Fn := runF 9
    (sSeq (sSet 2 (eCall 2 p_weights_left (aCons (eVar 0) (aCons (eVar 1) aNil))))
    (sSeq (sSet 3 (eCall 1 p_all_questions (aCons (eVar 0) aNil)))
    (sSeq (sFor (iRange1 (aCons (eBin oAdd (eCB oLen (aCons (eVar 3) aNil)) (eC (.int 1))) aNil)) (gNm 4) (sFor (iVal (eCall 2 p_some_numbers (aCons (eCB oLen (aCons (eVar 3) aNil)) (aCons (eVar 4) aNil)))) (gNm 5) (sSeq (sSet 6 (eFz (fComp (iVal (eVar 2)) (gNm 7) (fun _ st => .ok true st) (eCB oTuple (aCons (eFz (fComp (iVal (eVar 5)) (gNm 8) (fun _ st => .ok true st) (eCall 2 p_answer_of (aCons (eBin oIx (eVar 3) (eVar 8)) (aCons (eVar 7) aNil))) [8])) aNil)) [7])))
    (sIf (tE (eBin oEq (eLenSetT (eVar 6)) (eCB oLen (aCons (eVar 6) aNil)))) (sRet (eCB oTuple (aCons (eFz (fComp (iVal (eVar 5)) (gNm 8) (fun _ st => .ok true st) (eBin oIx (eVar 3) (eVar 8)) [8])) aNil))) sNil))))
    (sRet (eC .non)))))
section
variable {env : Ev} {st : Store} {T : PV → Store → Prop}
theorem rowsOf_map : ∀ zs : List (List Str), rowsOf (zs.map fun z => PV.tup (z.map PV.str)) = some zs
  | [] => rfl
  | z :: zs => by
    have e : ∀ z : List Str, strsOf (z.map PV.str) = some z := fun z => by
      induction z with
      | nil => rfl
      | cons a r ih => rw [List.map_cons, strsOf, ih]; rfl
    rw [List.map_cons, rowsOf, e, rowsOf_map zs]
theorem ok_lenSetT {f : XE} (h : Ok (f env st) fun p s => ∃ zs : List (List Str), p = .lst (zs.map fun z => PV.tup (z.map PV.str)) ∧ zs.length < 64 ∧ T (.int (nubR zs).length) s) : Ok (eLenSetT f env st) T := by
  rw [eLenSetT, ok_bind]
  refine h.mono fun p s h => ?_
  obtain ⟨zs, rfl, hl, t⟩ := h
  simp only [asL, rowsOf_map, if_pos hl]
  exact ok_ok.mpr t
end
def qAt (k i : Nat) : Qn := (qsL k).getD i ([], [])
def ansR (k : Nat) (ws : List Wt) (l : List Nat) : List (List Str) := ws.map fun w => l.map fun i => (ansA (qAt k i) w).s
def tells (k : Nat) (ws : List Wt) (l : List Nat) : Bool := decide (ansR k ws l).Nodup
def upTo (n z : Nat) : List (List Nat) := (List.range z).flatMap fun i => setsL n i
theorem upTo_succ (n z : Nat) : upTo n (z + 1) = upTo n z ++ setsL n z := by simp [upTo, List.range_succ]
theorem upTo_add (n z d : Nat) : upTo n (z + d) = upTo n z ++ (List.range d).flatMap fun q => setsL n (z + q) := by
  unfold upTo
  rw [List.range_add, List.flatMap_append, List.flatMap_map]
def numsL (n : Nat) : List (List Nat) := upTo n (n + 1)
def furL (k : Nat) (ws : List Wt) : Option (List Nat) := (numsL (qsL k).length).find? (tells k ws)
def furV (k : Nat) (l : List Nat) : PV := .tup (l.map fun i => quV (qAt k i))
theorem rng_at0 {n i : Nat} {x : PV} (h : (rng 0 n)[i]? = some x) : i < n ∧ x = .int (i : Int) := by
  have := rng_at2 h
  simpa using this
theorem find_split {α : Type} {p : α → Bool} {A B C : List α} {x : α} {j : Nat} (hA : ∀ a, a ∈ A → p a = false) (hB : ∀ a, a ∈ B.take j → p a = false) (e : B[j]? = some x) (hx : p x = true) : (A ++ B ++ C).find? p = some x := by
  have hj : j < B.length := (List.getElem?_eq_some_iff.mp e).1
  have b : B = B.take j ++ x :: B.drop (j + 1) := by
    conv => lhs; rw [← List.take_append_drop j B]
    rw [List.drop_eq_getElem_cons hj]
    rw [List.getElem?_eq_getElem hj] at e
    rw [Option.some.inj e]
  rw [b]
  have : A ++ (B.take j ++ x :: B.drop (j + 1)) ++ C = (A ++ B.take j) ++ x :: (B.drop (j + 1) ++ C) := by simp
  rw [this]
  refine find_first (fun q hq => ?_) hx
  rcases List.mem_append.mp hq with q1 | q1
  · exact hA _ q1
  · exact hB _ q1
theorem qu_at {k i : Nat} (h : i < (qsL k).length) (s : Store) : oIx (.lst ((qsL k).map quV)) (.int (i : Int)) s = some (quV (qAt k i)) := by
  have e : atI ((qsL k).map quV) (i : Int) = some (quV (qAt k i)) := by
    unfold atI ixN
    rw [List.length_map, if_pos (by omega), if_pos (by omega)]
    simp [qAt, List.getD_eq_getElem?_getD, h]
  simp only [oIx, asS, asL, e]
theorem fur_loop {k : Nat} {ws : List Wt} (h1 : 1 ≤ k) (h3 : k ≤ 3) (hw : ∀ w, w ∈ ws → w.length = k) (h64 : ws.length < 64) {a0 a1 : PV} (st : Store) :
    Ok (sFor (iRange1 (aCons (eBin oAdd (eCB oLen (aCons (eVar 3) aNil)) (eC (.int 1))) aNil)) (gNm 4) (sFor (iVal (eCall 2 p_some_numbers (aCons (eCB oLen (aCons (eVar 3) aNil)) (aCons (eVar 4) aNil)))) (gNm 5) (sSeq (sSet 6 (eFz (fComp (iVal (eVar 2)) (gNm 7) (fun _ st => .ok true st) (eCB oTuple (aCons (eFz (fComp (iVal (eVar 5)) (gNm 8) (fun _ st => .ok true st) (eCall 2 p_answer_of (aCons (eBin oIx (eVar 3) (eVar 8)) (aCons (eVar 7) aNil))) [8])) aNil)) [7])))
      (sIf (tE (eBin oEq (eLenSetT (eVar 6)) (eCB oLen (aCons (eVar 6) aNil)))) (sRet (eCB oTuple (aCons (eFz (fComp (iVal (eVar 5)) (gNm 8) (fun _ st => .ok true st) (eBin oIx (eVar 3) (eVar 8)) [8])) aNil))) sNil)))
      [some a0, some a1, some (someV ws), some (.lst ((qsL k).map quV)), none, none, none, none, none] st)
      fun fl s => match fl with | .rt v => ∃ l, furL k ws = some l ∧ v = furV k l ∧ s = st | .nx e => furL k ws = none ∧ e[0]? = some (some a0) ∧ s = st | _ => False := by
  have sz := szl
  have qn : (qsL k).length ≤ 6 := qs_len k
  have ln : ∀ s, oLen [.lst ((qsL k).map quV)] s = some (.int ((qsL k).length : Int)) := fun s => by simp [oLen, asS, asL]
  rw [ok_for]
  simp only [wkA, List.set_cons_zero, List.set_cons_succ, Option.some.injEq, exists_eq_left', exists_eq_left, List.length_cons, List.length_nil, Nat.reduceAdd, Nat.reduceLeDiff, true_and, and_true, if_true, Bool.not_true, Bool.not_false, Bool.false_eq_true, if_false, decide_eq_true_eq, List.cons.injEq, ↓reduceIte]
  refine Op.of (ln st) ?_
  simp only [oAdd_int, op_some]
  refine ⟨⟨by unfold okR; simp; omega, by omega⟩, ?_⟩
  have rn : ((((qsL k).length : Int) + 1).toNat) = (qsL k).length + 1 := by omega
  rw [rn]
  refine ok_loop (fun i e s' => (∃ y4 y5 y6, e = [some a0, some a1, some (someV ws), some (.lst ((qsL k).map quV)), y4, y5, y6, none, none]) ∧ s' = st ∧ ∀ l, l ∈ upTo (qsL k).length i → tells k ws l = false) _ 0 _ _ ?_ ⟨⟨_, _, _, rfl⟩, rfl, by simp [upTo]⟩ ?_
  · rintro i x hx e s1 ⟨⟨y4, y5, y6, rfl⟩, rfl, A1⟩
    obtain ⟨hi, rfl⟩ := rng_at0 hx
    rw [Nat.zero_add] at A1 ⊢
    rw [ok_gNm, ok_for]
    simp only [wkA, List.set_cons_zero, List.set_cons_succ, Option.some.injEq, exists_eq_left', exists_eq_left, List.length_cons, List.length_nil, Nat.reduceAdd, Nat.reduceLeDiff, true_and, and_true, if_true, Bool.not_true, Bool.not_false, Bool.false_eq_true, if_false, decide_eq_true_eq, List.cons.injEq, ↓reduceIte]
    refine Op.of (ln s1) ?_
    rw [Ok.eq (some_numbers_sp (n := (qsL k).length) (z := i) (by omega) (by omega) s1)]
    refine ⟨_, rfl, ?_⟩
    refine ok_loop (fun j e s' => (∃ y5 y6, e = [some a0, some a1, some (someV ws), some (.lst ((qsL k).map quV)), some (.int (i : Int)), y5, y6, none, none]) ∧ s' = s1 ∧ ∀ l, l ∈ (setsL (qsL k).length i).take j → tells k ws l = false) _ 0 _ _ ?_ ⟨⟨_, _, rfl⟩, rfl, by simp⟩ ?_
    · rintro j x hx e s2 ⟨⟨y5, y6, rfl⟩, rfl, A2⟩
      rw [List.getElem?_map] at hx
      cases ej : (setsL (qsL k).length i)[j]? with
      | none => rw [ej] at hx; cases hx
      | some l =>
        rw [ej] at hx
        cases hx
        rw [Nat.zero_add] at A2 ⊢
        have hm : l ∈ setsL (qsL k).length i := List.mem_of_getElem? ej
        obtain ⟨ll, lot, _⟩ := sets_ok (n := (qsL k).length) (z := i) (by omega) (by omega) l hm
        simp only [wkA, List.set_cons_zero, List.set_cons_succ, Option.some.injEq, exists_eq_left', exists_eq_left, List.length_cons, List.length_nil, Nat.reduceAdd, Nat.reduceLeDiff, true_and, and_true, if_true, Bool.not_true, Bool.not_false, Bool.false_eq_true, if_false, decide_eq_true_eq, List.cons.injEq, ↓reduceIte]
        refine ⟨_, rfl, ?_⟩
        simp only [wipeE, List.set_cons_succ, List.set_cons_zero]
        refine ok_mapE tI (fun w => PV.tup (l.map fun i => .str (ansA (qAt k i) w).s)) (fun w hww => ?_) ?_
        · simp only [wkA, List.set_cons_zero, List.set_cons_succ, Option.some.injEq, exists_eq_left', exists_eq_left, List.length_cons, List.length_nil, Nat.reduceAdd, Nat.reduceLeDiff, true_and, and_true, if_true, Bool.not_true, Bool.not_false, Bool.false_eq_true, if_false, decide_eq_true_eq, List.cons.injEq, ↓reduceIte]
          refine ⟨_, rfl, ?_⟩
          simp only [wipeE, List.set_cons_succ, List.set_cons_zero]
          refine ok_mapE (fun i : Nat => PV.int (i : Int)) (fun i => .str (ansA (qAt k i) w).s) (fun i hi => ?_) ?_
          · simp only [wkA, List.set_cons_zero, List.set_cons_succ, Option.some.injEq, exists_eq_left', exists_eq_left, List.length_cons, List.length_nil, Nat.reduceAdd, Nat.reduceLeDiff, true_and, and_true, if_true, Bool.not_true, Bool.not_false, Bool.false_eq_true, if_false, decide_eq_true_eq, List.cons.injEq, ↓reduceIte]
            refine Op.of (qu_at (lot.2 i hi) s2) ?_
            have hq : qAt k i ∈ qsL k := by
              have h := lot.2 i hi
              simp [qAt, List.getD_eq_getElem?_getD, h]
            obtain ⟨q1, q2⟩ := qs_lot h1 h3 _ hq
            rw [Ok.eq (answer_of_sp (hw w hww) q1 q2 s2)]
            exact ⟨rfl, rfl⟩
          · exact Op.of rfl ⟨rfl, rfl⟩
        · rw [nxK_nx]
          simp only [wkA, List.set_cons_zero, List.set_cons_succ, Option.some.injEq, exists_eq_left', exists_eq_left, List.length_cons, List.length_nil, Nat.reduceAdd, Nat.reduceLeDiff, true_and, and_true, if_true, Bool.not_true, Bool.not_false, Bool.false_eq_true, if_false, decide_eq_true_eq, List.cons.injEq, ↓reduceIte]
          have er : (ws.map fun w => PV.tup (l.map fun i => .str (ansA (qAt k i) w).s)) = (ansR k ws l).map fun z => PV.tup (z.map PV.str) := by
            unfold ansR
            rw [List.map_map]
            refine List.map_congr_left fun w _ => ?_
            simp [List.map_map, Function.comp]
          have al : (ansR k ws l).length = ws.length := by simp [ansR]
          rw [er]
          refine ok_lenSetT ?_
          simp only [wkA, List.set_cons_zero, List.set_cons_succ, Option.some.injEq, exists_eq_left', exists_eq_left, List.length_cons, List.length_nil, Nat.reduceAdd, Nat.reduceLeDiff, true_and, and_true, if_true, Bool.not_true, Bool.not_false, Bool.false_eq_true, if_false, decide_eq_true_eq, List.cons.injEq, ↓reduceIte]
          refine ⟨_, rfl, by rw [al]; exact h64, ?_⟩
          refine Op.of (z := .int ((ansR k ws l).length : Int)) (by simp [oLen, asS, asL]) ?_
          simp only [oEq_int, op_some]
          have te : (((nubR (ansR k ws l)).length : Int) == ((ansR k ws l).length : Int)) = tells k ws l := by
            unfold tells
            refine decide_eq_decide.mpr ?_
            rw [← nubR_id]
            omega
          rw [te]
          by_cases f : tells k ws l = true
          · rw [if_pos f]
            refine ⟨_, rfl, ?_⟩
            simp only [wipeE, List.set_cons_succ, List.set_cons_zero]
            refine ok_mapE (fun i : Nat => PV.int (i : Int)) (fun i => quV (qAt k i)) (fun i hi => ?_) ?_
            · simp only [wkA, List.set_cons_zero, List.set_cons_succ, Option.some.injEq, exists_eq_left', exists_eq_left, List.length_cons, List.length_nil, Nat.reduceAdd, Nat.reduceLeDiff, true_and, and_true, if_true, Bool.not_true, Bool.not_false, Bool.false_eq_true, if_false, decide_eq_true_eq, List.cons.injEq, ↓reduceIte]
              exact Op.of (qu_at (lot.2 i hi) s2) rfl
            · refine Op.of rfl ⟨l, ?_, rfl, rfl⟩
              have sp : numsL (qsL k).length = upTo (qsL k).length i ++ setsL (qsL k).length i ++ (List.range ((qsL k).length - i)).flatMap fun q => setsL (qsL k).length (i + 1 + q) := by
                unfold numsL
                rw [← upTo_succ, ← upTo_add]
                congr 1
                omega
              unfold furL
              rw [sp]
              exact find_split A1 A2 ej f
          · have f' : tells k ws l = false := by simpa using f
            rw [if_neg f]
            refine ⟨⟨_, _, rfl, rfl⟩, fun l' hl' => ?_⟩
            rw [List.take_add_one, ej] at hl'
            rcases List.mem_append.mp hl' with q | q
            · exact A2 l' q
            · simp at q; rw [q]; exact f'
    · rintro e s2 ⟨⟨y5, y6, rfl⟩, rfl, A2⟩
      rw [Nat.zero_add, List.length_map, List.take_length] at A2
      refine ⟨⟨_, _, _, rfl⟩, rfl, fun l hl' => ?_⟩
      rw [upTo_succ] at hl'
      rcases List.mem_append.mp hl' with q | q
      · exact A1 l q
      · exact A2 l q
  · rintro e s1 ⟨⟨y4, y5, y6, rfl⟩, rfl, A1⟩
    rw [Nat.zero_add, rng_lenA] at A1
    refine ⟨?_, rfl, rfl⟩
    exact List.find?_eq_none.mpr fun l hl' => by simpa using A1 l hl'
theorem nums_full {k : Nat} (h1 : 1 ≤ k) (h3 : k ≤ 3) : List.range (qsL k).length ∈ numsL (qsL k).length := by
  rcases three h1 h3 with rfl | rfl | rfl <;> decide +kernel
theorem an_inj {a b : An} (h : a.s = b.s) : a = b := by
  have := peq_an a b
  rw [h] at this
  have r : peq (.str b.s) (.str b.s) = true := peq_refl _ rfl
  rw [r] at this
  simpa using this.symm
theorem tells_iff {k : Nat} {ws : List Wt} {l : List Nat} : tells k ws l = true ↔ ws.Pairwise fun a b => ∃ i, i ∈ l ∧ ansA (qAt k i) a ≠ ansA (qAt k i) b := by
  unfold tells ansR
  rw [decide_eq_true_eq, List.nodup_iff_pairwise_ne, List.pairwise_map]
  constructor
  · refine List.Pairwise.imp fun {a b} h => ?_
    refine Classical.byContradiction fun no => h ?_
    refine List.map_congr_left fun i hi => ?_
    have : ansA (qAt k i) a = ansA (qAt k i) b := Classical.byContradiction fun z => no ⟨i, hi, z⟩
    rw [this]
  · refine List.Pairwise.imp fun {a b} h e => ?_
    obtain ⟨i, hi, ne⟩ := h
    exact ne (an_inj (List.map_inj_left.mp e i hi))
theorem tells_full {k : Nat} {ws : List Wt} (A : Apt k ws) : tells k ws (List.range (qsL k).length) = true := by
  rw [tells_iff]
  refine A.sep.imp fun {a b} h => ?_
  unfold sepL at h
  obtain ⟨q, hq, ne⟩ := List.any_eq_true.mp h
  obtain ⟨i, hi, e⟩ := List.getElem_of_mem hq
  refine ⟨i, List.mem_range.mpr hi, ?_⟩
  have : qAt k i = q := by simp [qAt, List.getD_eq_getElem?_getD, hi, e]
  rw [this]
  simpa using ne
theorem fur_some {k : Nat} {ws : List Wt} (h1 : 1 ≤ k) (h3 : k ≤ 3) (A : Apt k ws) : ∃ l, furL k ws = some l := by
  cases e : furL k ws with
  | some l => exact ⟨l, rfl⟩
  | none =>
    have := List.find?_eq_none.mp e _ (nums_full h1 h3)
    exact absurd (tells_full A) this
theorem wts_len {k : Nat} {told : List Cp} (h1 : 1 ≤ k) (h3 : k ≤ 3) : (wtsL k told).length ≤ 31 := by
  have e : (entsL k).length ≤ 31 := by rcases three h1 h3 with rfl | rfl | rfl <;> decide +kernel
  have := List.length_filter_le (fun e : En => agB e.2 told) (entsL k)
  unfold wtsL agL
  rw [List.length_map]
  omega
theorem fewest_further_sp {k : Nat} {told : List Cp} (h1 : 1 ≤ k) (h3 : k ≤ 3) (h : Valid k told) (hl : told.length ≤ 8) (ne : wtsL k told ≠ []) (st : Store) :
    Ok (p_fewest_further [.int (k : Int), toldV told] st) fun v s => (∃ l, furL k (wtsL k told) = some l ∧ v = furV k l) ∧ Keeps [] st s := by
  have A := apt_wts h1 h3 ne
  (unfold p_fewest_further runF; rw [ok_retF]; simp only [env0, List.map_cons, List.map_nil, List.length_cons, List.length_nil, Nat.reduceAdd, Nat.reduceSub, List.reduceReplicate, List.cons_append, List.nil_append])
  simp only [wkA, List.set_cons_zero, List.set_cons_succ, Option.some.injEq, exists_eq_left', exists_eq_left, List.length_cons, List.length_nil, Nat.reduceAdd, Nat.reduceLeDiff, true_and, and_true, if_true, Bool.not_true, Bool.not_false, Bool.false_eq_true, if_false, decide_eq_true_eq, List.cons.injEq, ↓reduceIte]
  refine (weights_left_sp h1 h3 h hl ne st).mono fun v s hv => ?_
  obtain ⟨rfl, K⟩ := hv
  rw [nxK_nx]
  simp only [wkA, List.set_cons_zero, List.set_cons_succ, Option.some.injEq, exists_eq_left', exists_eq_left, List.length_cons, List.length_nil, Nat.reduceAdd, Nat.reduceLeDiff, true_and, and_true, if_true, Bool.not_true, Bool.not_false, Bool.false_eq_true, if_false, decide_eq_true_eq, List.cons.injEq, ↓reduceIte]
  refine (all_questions_sp h1 h3 s).mono fun v s2 hv => ?_
  obtain ⟨rfl, K2⟩ := hv
  rw [nxK_nx]
  rw [ok_seq]
  refine (fur_loop h1 h3 A.wl (by have := wts_len (k := k) (told := told) h1 h3; omega) s2).mono fun fl s3 hf => ?_
  cases fl with
  | rt v =>
    obtain ⟨l, e, rfl, rfl⟩ := hf
    rw [nxK_rt]
    exact ⟨⟨l, e, rfl⟩, K.trans K2⟩
  | nx e =>
    obtain ⟨l, e⟩ := fur_some h1 h3 A
    rw [hf.1] at e
    cases e
  | _ => exact hf.elim
theorem sets_sz {n z : Nat} (hn : n ≤ 8) {l : List Nat} (h : l ∈ upTo n z) (hz : z ≤ 9) : l.length < z ∧ Lot n l := by
  obtain ⟨i, hi, hl⟩ := List.mem_flatMap.mp h
  have := List.mem_range.mp hi
  obtain ⟨a, b, _⟩ := sets_ok hn (by omega) l hl
  exact ⟨by omega, b⟩
theorem nums_sorted {k : Nat} (h1 : 1 ≤ k) (h3 : k ≤ 3) : (numsL (qsL k).length).Pairwise fun a b => a.length ≤ b.length := by
  rcases three h1 h3 with rfl | rfl | rfl <;> decide +kernel
theorem find_min {α : Type} {p : α → Bool} {f : α → Nat} {x : α} : ∀ {L : List α}, L.Pairwise (fun a b => f a ≤ f b) → L.find? p = some x → ∀ y, y ∈ L → p y = true → f x ≤ f y
  | [], _, h => nomatch h
  | a :: L, hs, h => by
    obtain ⟨s1, s2⟩ := List.pairwise_cons.mp hs
    intro y hy py
    rw [List.find?_cons] at h
    cases e : p a with
    | true =>
      rw [e] at h
      cases h
      rcases List.mem_cons.mp hy with rfl | hy
      · exact Nat.le_refl _
      · exact s1 y hy
    | false =>
      rw [e] at h
      rcases List.mem_cons.mp hy with rfl | hy
      · rw [e] at py; cases py
      · exact find_min s2 h y hy py
theorem fur_tells {k : Nat} {ws : List Wt} {l : List Nat} (h : furL k ws = some l) : tells k ws l = true ∧ l ∈ numsL (qsL k).length := ⟨List.find?_some h, List.mem_of_find?_eq_some h⟩
theorem tells_sub {k : Nat} {ws us : List Wt} {l : List Nat} (h : tells k ws l = true) (s : List.Sublist us ws) : tells k us l = true := by
  rw [tells_iff] at h ⊢
  exact h.sublist s
theorem fur_mono {k : Nat} {ws us : List Wt} (h1 : 1 ≤ k) (h3 : k ≤ 3) {l l' : List Nat} (h : furL k ws = some l) (h' : furL k us = some l') (s : List.Sublist us ws) : l'.length ≤ l.length := by
  obtain ⟨t, m⟩ := fur_tells h
  exact find_min (nums_sorted h1 h3) h' l m (tells_sub t s)
theorem fur_nil {k : Nat} {ws : List Wt} {l : List Nat} (h1 : 1 ≤ k) (h3 : k ≤ 3) (ne : ws ≠ []) (h : furL k ws = some l) : l = [] ↔ ws.length = 1 := by
  constructor
  · rintro rfl
    have t := (fur_tells h).1
    rw [tells_iff] at t
    match ws, ne, t with
    | [w], _, _ => rfl
    | a :: b :: r, _, t =>
      obtain ⟨i, hi, _⟩ := (List.pairwise_cons.mp t).1 b (by simp)
      cases hi
  · intro e
    have m0 : [] ∈ numsL (qsL k).length := by rcases three h1 h3 with rfl | rfl | rfl <;> decide +kernel
    have t0 : tells k ws [] = true := by
      rw [tells_iff]
      match ws, e with
      | [w], _ => exact List.pairwise_singleton _ _
    have := find_min (f := List.length) (nums_sorted h1 h3) h [] m0 t0
    exact List.length_eq_zero_iff.mp (by simpa using this)
theorem few_tells {k : Nat} : ∀ (n : Nat) (ws : List Wt) (l : List Nat), l.length = n → ws ≠ [] → (∀ i, i ∈ l → qAt k i ∈ qsL k) → tells k ws l = true → fewF k ws ≤ (n : Int)
  | 0, ws, l, hn, ne, hq, ht => by
    have : l = [] := List.length_eq_zero_iff.mp hn
    subst this
    rw [few_eq]
    rw [tells_iff] at ht
    match ws, ne, ht with
    | [w], _, _ => simp
    | a :: b :: r, _, t =>
      obtain ⟨i, hi, _⟩ := (List.pairwise_cons.mp t).1 b (by simp)
      cases hi
  | n + 1, ws, l, hn, ne, hq, ht => by
    rw [few_eq]
    split
    · omega
    · rename_i l1
      have ht' := ht
      rw [tells_iff] at ht'
      obtain ⟨i, hi, w, hw, w', hw', d⟩ : ∃ i, i ∈ l ∧ ∃ w, w ∈ ws ∧ ∃ w', w' ∈ ws ∧ ansA (qAt k i) w ≠ ansA (qAt k i) w' := by
        match ws, ne, l1, ht' with
        | [w], _, l1, _ => exact absurd rfl l1
        | a :: b :: r, _, _, t =>
          obtain ⟨i, hi, d⟩ := (List.pairwise_cons.mp t).1 b (by simp)
          exact ⟨i, hi, a, by simp, b, by simp, d⟩
      have sp : splB ws (qAt k i) = true := by
        unfold splB
        rw [decide_eq_true_eq, parts_len]
        have pa : ∀ u, u ∈ ws → (!(selA (qAt k i) (ansA (qAt k i) u) ws).isEmpty) = true := fun u hu => by
          have : u ∈ selA (qAt k i) (ansA (qAt k i) u) ws := List.mem_filter.mpr ⟨hu, by simp⟩
          cases e : selA (qAt k i) (ansA (qAt k i) u) ws with
          | nil => rw [e] at this; cases this
          | cons _ _ => rfl
        have p1 := pa w hw
        have p2 := pa w' hw'
        generalize ansA (qAt k i) w = x at d p1
        generalize ansA (qAt k i) w' = y at d p2
        unfold ans3L
        simp only [List.countP_cons, List.countP_nil]
        cases x <;> cases y <;> first | (exact absurd rfl d) | (simp only [p1, p2, if_true]; omega)
      have le : minL (((qsL k).filter (splB ws)).map (costF k ws)) ≤ costF k ws (qAt k i) := minL_le (List.mem_map.mpr ⟨_, List.mem_filter.mpr ⟨hq i hi, sp⟩, rfl⟩)
      refine Int.le_trans le ?_
      unfold costF
      have mm := maxL_mem (ns := (partsL ws (qAt k i)).map fun p => fewF k p.2) (by simp [parts_ne sp])
      obtain ⟨p, hp, ep⟩ := List.mem_map.mp mm
      obtain ⟨e2, ne2, sl⟩ := part_mem hp
      have el : (l.erase i).length = n := by
        rw [List.length_erase_of_mem hi, hn]
        omega
      have ih := few_tells (k := k) n p.2 (l.erase i) el ne2 (fun j hj => hq j (List.mem_of_mem_erase hj)) ?_
      · rw [← ep]; omega
      · have t2 := tells_sub ht sl
        rw [tells_iff] at t2 ⊢
        refine List.Pairwise.imp_of_mem (fun {a b} ha hb h => ?_) t2
        obtain ⟨j, hj, dj⟩ := h
        refine ⟨j, ?_, dj⟩
        have ji : j ≠ i := by
          rintro rfl
          rw [e2] at ha hb
          have a1 := (List.mem_filter.mp ha).2
          have b1 := (List.mem_filter.mp hb).2
          rw [decide_eq_true_eq] at a1 b1
          exact dj (a1.trans b1.symm)
        exact (List.mem_erase_of_ne ji).mpr hj
theorem few_fur {k : Nat} {ws : List Wt} {l : List Nat} (h1 : 1 ≤ k) (h3 : k ≤ 3) (ne : ws ≠ []) (h : furL k ws = some l) : fewF k ws ≤ (l.length : Int) := by
  obtain ⟨t, m⟩ := fur_tells h
  have qn := qs_len k
  obtain ⟨_, lot⟩ := sets_sz (n := (qsL k).length) (by omega) m (by omega)
  refine few_tells _ ws l rfl ne (fun i hi => ?_) t
  have h := lot.2 i hi
  simp [qAt, List.getD_eq_getElem?_getD, h]
def agV (k : Nat) (told : List Cp) : PV := .tup ((agL k told).map fun e => ordV e.1)
theorem agreeing_sp {k : Nat} {told : List Cp} (h1 : 1 ≤ k) (h3 : k ≤ 3) (h : Valid k told) (hl : told.length ≤ 8) (st : Store) : Ok (p_agreeing [.int (k : Int), toldV told] st) fun v s => v = agV k told ∧ Keeps [] st s := by
  have sz := szl
  (unfold p_agreeing runF; rw [ok_retF]; simp only [env0, List.map_cons, List.map_nil, List.length_cons, List.length_nil, Nat.reduceAdd, Nat.reduceSub, List.reduceReplicate, List.cons_append, List.nil_append])
  simp only [wkA, List.set_cons_zero, List.set_cons_succ, Option.some.injEq, exists_eq_left', exists_eq_left, List.length_cons, List.length_nil, Nat.reduceAdd, Nat.reduceLeDiff, true_and, and_true, if_true, Bool.not_true, Bool.not_false, Bool.false_eq_true, if_false, decide_eq_true_eq, List.cons.injEq, ↓reduceIte]
  refine (found_agreeing_sp h1 h3 h hl st).mono fun v s hv => ?_
  obtain ⟨rfl, K⟩ := hv
  refine ⟨_, rfl, ?_⟩
  refine ok_mapE (fun e : En => PV.tup [ordV e.1, tI e.2]) (fun e => ordV e.1) (fun e he => ?_) ?_
  · simp only [wipeE]
    simp only [wkA, List.set_cons_zero, List.set_cons_succ, Option.some.injEq, exists_eq_left', exists_eq_left, List.length_cons, List.length_nil, Nat.reduceAdd, Nat.reduceLeDiff, true_and, and_true, if_true, Bool.not_true, Bool.not_false, Bool.false_eq_true, if_false, decide_eq_true_eq, List.cons.injEq, ↓reduceIte]
  · exact Op.of rfl ⟨rfl, K⟩
end Lq
end
section
set_option Elab.async false
set_option linter.all false
set_option maxRecDepth 100000
namespace Gk40
open PySem PySem.Spec PyProof.Rows L2 Lq
open Sx (at0 si)
theorem e_out : f__law_outcome = outF f__law_call := rfl
theorem e_ans : f__law_answer = p_answer_of := rfl
theorem asks_sp {k : Nat} (h1 : 1 ≤ k) (h3 : k ≤ 3) (st : Store) : f__law_asks [.int (k : Int)] st = .ok (.lst ((qsL k).map quV)) st := by
  rcases three h1 h3 with rfl | rfl | rfl <;> kernel_rfl
theorem left_none {k : Nat} {told : List Cp} (h1 : 1 ≤ k) (h3 : k ≤ 3) (h : Valid k told) (hl : told.length ≤ 8) (ne : wtsL k told = []) (st : Store) : Ex (p_weights_left [.int (k : Int), toldV told] st) "NoneAgree" fun s => Keeps [] st s := by
  have sz := szl
  unfold p_weights_left runF
  refine ex_retF ?_
  simp only [env0, List.map_cons, List.map_nil, List.length_cons, List.length_nil, Nat.reduceAdd, Nat.reduceSub, List.reduceReplicate, List.cons_append, List.nil_append]
  refine ex_seq ?_
  simp only [wkA, List.set_cons_zero, List.set_cons_succ, Option.some.injEq, exists_eq_left', exists_eq_left, List.length_cons, List.length_nil, Nat.reduceAdd, Nat.reduceLeDiff, true_and, and_true, if_true, Bool.not_true, Bool.not_false, Bool.false_eq_true, if_false, decide_eq_true_eq, List.cons.injEq, ↓reduceIte]
  refine (found_agreeing_sp h1 h3 h hl st).mono fun v s hv => ?_
  obtain ⟨rfl, K⟩ := hv
  refine ⟨_, rfl, ?_⟩
  refine ok_mapE (fun e : En => PV.tup [ordV e.1, tI e.2]) (fun e => tI e.2) (fun e he => ?_) ?_
  · simp only [wipeE]
    simp only [wkA, List.set_cons_zero, List.set_cons_succ, Option.some.injEq, exists_eq_left', exists_eq_left, List.length_cons, List.length_nil, Nat.reduceAdd, Nat.reduceLeDiff, true_and, and_true, if_true, Bool.not_true, Bool.not_false, Bool.false_eq_true, if_false, decide_eq_true_eq, List.cons.injEq, ↓reduceIte]
  · have e : (agL k told).map (fun e : En => tI e.2) = (wtsL k told).map tI := by unfold wtsL; rw [List.map_map]; rfl
    refine Op.of (z := someV (wtsL k told)) (by show some (PV.tup ((agL k told).map fun e : En => tI e.2)) = _; rw [e]; rfl) ?_
    refine ex_seqX (ex_if ?_)
    simp only [wkA, List.set_cons_zero, List.set_cons_succ, Option.some.injEq, exists_eq_left', exists_eq_left, List.length_cons, List.length_nil, Nat.reduceAdd, Nat.reduceLeDiff, true_and, and_true, if_true, Bool.not_true, Bool.not_false, Bool.false_eq_true, if_false, decide_eq_true_eq, List.cons.injEq, ↓reduceIte]
    refine Op.of (z := .bl true) ?_ ?_
    · show oEq (someV (wtsL k told)) (someV []) s = _
      rw [oEq_pl (pl_some _) (pl_some _), peq_some, decide_eq_true ne]
    · simp only [if_true]
      exact ex_raise K
section
variable {k : Nat} {told : List Cp}
theorem none_1 (h1 : 1 ≤ k) (h3 : k ≤ 3) (h : Valid k told) (hl : told.length ≤ 8) (ne : wtsL k told = []) (st : Store) : Ex (f_fewest_further [.int (k : Int), toldV told] st) "NoneAgree" fun s => Keeps [] st s := by
  have sz := szl
  rw [show f_fewest_further = p_fewest_further from rfl]
  unfold p_fewest_further runF
  refine ex_retF ?_
  simp only [env0, List.map_cons, List.map_nil, List.length_cons, List.length_nil, Nat.reduceAdd, Nat.reduceSub, List.reduceReplicate, List.cons_append, List.nil_append]
  refine ex_seqX (ex_set (ex_call ?_))
  simp only [wkA, List.set_cons_zero, List.set_cons_succ, Option.some.injEq, exists_eq_left', exists_eq_left, List.length_cons, List.length_nil, Nat.reduceAdd, Nat.reduceLeDiff, true_and, and_true, if_true, Bool.not_true, Bool.not_false, Bool.false_eq_true, if_false, decide_eq_true_eq, List.cons.injEq, ↓reduceIte]
  exact left_none h1 h3 h hl ne st
theorem none_2 (h1 : 1 ≤ k) (h3 : k ≤ 3) (h : Valid k told) (hl : told.length ≤ 8) (ne : wtsL k told = []) (st : Store) : Ex (f_fewest_questions [.int (k : Int), toldV told] st) "NoneAgree" fun s => Keeps [] st s := by
  have sz := szl
  rw [show f_fewest_questions = p_fewest_questions from rfl]
  unfold p_fewest_questions runF
  refine ex_retF ?_
  simp only [env0, List.map_cons, List.map_nil, List.length_cons, List.length_nil, Nat.reduceAdd, Nat.reduceSub, List.reduceReplicate, List.cons_append, List.nil_append]
  refine ex_seqX (ex_set (ex_call ?_))
  simp only [wkA, List.set_cons_zero, List.set_cons_succ, Option.some.injEq, exists_eq_left', exists_eq_left, List.length_cons, List.length_nil, Nat.reduceAdd, Nat.reduceLeDiff, true_and, and_true, if_true, Bool.not_true, Bool.not_false, Bool.false_eq_true, if_false, decide_eq_true_eq, List.cons.injEq, ↓reduceIte]
  exact left_none h1 h3 h hl ne st
theorem none_3 (h1 : 1 ≤ k) (h3 : k ≤ 3) (h : Valid k told) (hl : told.length ≤ 8) (ne : wtsL k told = []) (st : Store) : Ex (f_question_plan [.int (k : Int), toldV told] st) "NoneAgree" fun s => Keeps [] st s := by
  have sz := szl
  rw [show f_question_plan = p_question_plan from rfl]
  unfold p_question_plan runF
  refine ex_retF ?_
  simp only [env0, List.map_cons, List.map_nil, List.length_cons, List.length_nil, Nat.reduceAdd, Nat.reduceSub, List.reduceReplicate, List.cons_append, List.nil_append]
  refine ex_seqX (ex_set (ex_call ?_))
  simp only [wkA, List.set_cons_zero, List.set_cons_succ, Option.some.injEq, exists_eq_left', exists_eq_left, List.length_cons, List.length_nil, Nat.reduceAdd, Nat.reduceLeDiff, true_and, and_true, if_true, Bool.not_true, Bool.not_false, Bool.false_eq_true, if_false, decide_eq_true_eq, List.cons.injEq, ↓reduceIte]
  exact left_none h1 h3 h hl ne st
end
def fnT : List (Str × Fn) := [("agreeing", f_agreeing), ("fewest_further", f_fewest_further), ("fewest_questions", f_fewest_questions), ("question_plan", f_question_plan)]
theorem ex_callV {tab : List (Str × Fn)} {n : Nat} {ff : XE} {fl : XL} {env : Ev} {st : Store} {c : Str} {P : Store → Prop} (h : Ok (ff env st) fun g s1 => ∃ x f, g = .glo x ∧ tab.lookup x = some f ∧ Ok (fl env s1) fun xs s2 => xs.length = n ∧ Ex (f xs s2) c P) : Ex (eCallV tab n ff fl env st) c P := by
  rw [eCallV]
  refine ex_bind (h.mono fun g s1 h => ?_)
  obtain ⟨x, f, rfl, e, h⟩ := h
  simp only [e]
  refine ex_bind (h.mono fun xs s2 h => ?_)
  rw [if_pos h.1]
  exact h.2
theorem call_none {i : Nat} {x : Str} {f : Fn} {a b : PV} {s : Store} {c : Str} {P : Store → Prop} (h : Ex (f [a, b] s) c P)
    (e2 : oIx (.tup [.glo "agreeing", .glo "fewest_further", .glo "fewest_questions", .glo "question_plan"]) (.int (i : Int)) s = some (.glo x)) (e3 : fnT.lookup x = some f) : Ex (f__law_call [.int (i : Int), .tup [a, b]] s) c P := by
  have sz := szl
  unfold f__law_call runF
  refine ex_retF ?_
  simp only [env0, List.map_cons, List.map_nil, List.length_cons, List.length_nil, Nat.reduceAdd, Nat.reduceSub, List.reduceReplicate, List.cons_append, List.nil_append]
  refine ex_seq ?_
  simp only [wkA, List.set_cons_zero, List.set_cons_succ, Option.some.injEq, exists_eq_left', exists_eq_left, List.length_cons, List.length_nil, Nat.reduceAdd, Nat.reduceLeDiff, true_and, and_true, if_true, Bool.not_true, Bool.not_false, Bool.false_eq_true, if_false, decide_eq_true_eq, List.cons.injEq, ↓reduceIte]
  refine ex_ret (ex_callV ?_)
  simp only [wkA, List.set_cons_zero, List.set_cons_succ, Option.some.injEq, exists_eq_left', exists_eq_left, List.length_cons, List.length_nil, Nat.reduceAdd, Nat.reduceLeDiff, true_and, and_true, if_true, Bool.not_true, Bool.not_false, Bool.false_eq_true, if_false, decide_eq_true_eq, List.cons.injEq, ↓reduceIte]
  refine Op.of e2 ⟨_, _, rfl, e3, ?_⟩
  exact Op.of (z := a) rfl (Op.of (z := b) rfl h)
theorem out_none {k : Nat} {told : List Cp} (h1 : 1 ≤ k) (h3 : k ≤ 3) (h : Valid k told) (hl : told.length ≤ 8) (ne : wtsL k told = []) : ∀ i, i ∈ [1, 2, 3] → ∀ st : Store, Ok (f__law_outcome [.int ((i : Nat) : Int), .tup [.int (k : Int), toldV told]] st) fun v s => v = rsd "NoneAgree" ∧ Keeps [] st s := by
  intro i hi st
  rw [e_out]
  have key : Ex (f__law_call [.int ((i : Nat) : Int), .tup [.int (k : Int), toldV told]] st) "NoneAgree" fun s => Keeps [] st s := by
    simp only [List.mem_cons, List.not_mem_nil, or_false] at hi
    rcases hi with rfl | rfl | rfl
    · exact call_none (i := 1) (none_1 h1 h3 h hl ne st) rfl rfl
    · exact call_none (i := 2) (none_2 h1 h3 h hl ne st) rfl rfl
    · exact call_none (i := 3) (none_3 h1 h3 h hl ne st) rfl rfl
  refine (outF_x (by decide) key).mono fun v s hv => ?_
  obtain ⟨rfl, s2, K, rfl⟩ := hv
  exact ⟨rfl, K.trans (Keeps.app _ _ _)⟩
theorem out_many : ∀ i, i ∈ [0, 1, 2, 3] → ∀ st : Store, f__law_outcome [.int ((i : Nat) : Int), .tup [.int 4, .tup []]] st = .ok (rsd "TooMany") (st ++ [.exc "TooMany"]) := by
  intro i hi st
  rw [e_out]
  refine outF_e (by decide) ?_
  simp only [List.mem_cons, List.not_mem_nil, or_false] at hi
  rcases hi with rfl | rfl | rfl | rfl <;> kernel_rfl
def bds : List PV := [.non, .tup [.tup [.int 0]], .lst [.tup [.tup [.int 0], .str ">", .tup []]], .tup [.tup [.tup [.int 5], .str ">", .tup []]], .tup [.tup [.tup [.int 0], .str "<", .tup []]]]
theorem out_told {k : Nat} (h1 : 1 ≤ k) (h3 : k ≤ 3) : ∀ b, b ∈ bds → ∀ st : Store, f__law_outcome [.int 1, .tup [.int (k : Int), b]] st = .ok (rsd "InvalidTold") (st ++ [.exc "InvalidTold"]) := by
  intro b hb st
  rw [e_out]
  refine outF_e (by decide) ?_
  simp only [bds, List.mem_cons, List.not_mem_nil, or_false] at hb
  rcases three h1 h3 with rfl | rfl | rfl <;> rcases hb with rfl | rfl | rfl | rfl | rfl <;> kernel_rfl
def prV (e : En) : PV := .tup [tI e.2, ordV e.1]
theorem dOk_pr (e : En) : dOk 59 (prV e) = true ∧ noScr (prV e) = true := by
  obtain ⟨a, b⟩ := dOk_tI 57 e.2
  obtain ⟨c, d⟩ := dOk_ord 55 e.1
  exact ⟨by simp [prV, dOk, dOks, a, c], by simp [prV, noScr, noScrs, b, d]⟩
theorem pl_lstM {α : Type} {F : α → PV} (h : ∀ x, dOk 59 (F x) = true ∧ noScr (F x) = true) (xs : List α) : Pl (.lst (xs.map F)) :=
  ⟨by unfold dChk; rw [dOk, noScr, dOks_mp (fun x => (h x).1), noScrs_mp (fun x => (h x).2)]; rfl, fun _ => rfl⟩
theorem pl_prs (l : List En) : Pl (.lst (l.map prV)) := pl_lstM dOk_pr l
theorem dOk_qu (m : Nat) (q : Qn) : dOk (m + 2) (quV q) = true ∧ noScr (quV q) = true := by
  have a := dOk_lot m q.1
  have b := dOk_lot m q.2
  have c := noScr_lot q.1
  have d := noScr_lot q.2
  exact ⟨by simp [quV, dOk, dOks, a, b], by simp [quV, noScr, noScrs, c, d]⟩
theorem pl_fur (k : Nat) (l : List Nat) : Pl (furV k l) := pl_tupM (F := fun i => quV (qAt k i)) (fun i => dOk_qu 57 _) l
theorem pl_ag (k : Nat) (told : List Cp) : Pl (agV k told) := pl_tupM (F := fun e : En => ordV e.1) (fun e => dOk_ord 56 e.1) _
theorem nil_eq {xs : List PV} (h : Pl (.lst xs)) (s : Store) : oEq (.lst xs) (.lst []) s = some (.bl xs.isEmpty) := by
  rw [oEq_pl h (⟨by simp [dChk, dOk, dOks, noScr, noScrs], fun _ => rfl⟩)]
  cases xs <;> rfl
theorem oEq_nn (s : Store) : oEq (.lst []) (.lst []) s = some (.bl true) := by kernel_rfl
theorem oNe_nn (s : Store) : oNe (.lst []) (.lst []) s = some (.bl false) := by kernel_rfl
end Gk40
end
section
set_option Elab.async false
set_option linter.all false
set_option maxRecDepth 100000
namespace Gk40
open PySem PySem.Spec PyProof.Rows L2 Lq
open Sx (at0 si)
def law6 : XS :=
    (sSeq (sIf (tE (eBin oNe (eFz (fComp (iRange1 (aCons (eC (.int 4)) aNil)) (gNm 15) (tE (eBin oNe (eCall 2 f__law_outcome (aCons (eVar 15) (aCons (eTup (aCons (eC (.int 4)) (aCons (eTup aNil) aNil))) aNil))) (eCall 1 p__law_raises (aCons (eC (.str "many")) aNil)))) (eVar 15) [15])) (eFz (fDisp aNil)))) (sRet (eC (.bl false))) sNil)
    (sSeq (sSet 12 (eFz (fDisp (aCons (eC .non) (aCons (eTup (aCons (eTup (aCons (eC (.int 0)) aNil)) aNil)) (aCons (eFz (fDisp (aCons (eTup (aCons (eTup (aCons (eC (.int 0)) aNil)) (aCons (eC (.str ">")) (aCons (eTup aNil) aNil)))) aNil))) (aCons (eTup (aCons (eTup (aCons (eTup (aCons (eC (.int 5)) aNil)) (aCons (eC (.str ">")) (aCons (eTup aNil) aNil)))) aNil)) (aCons (eTup (aCons (eTup (aCons (eTup (aCons (eC (.int 0)) aNil)) (aCons (eC (.str "<")) (aCons (eTup aNil) aNil)))) aNil)) aNil))))))))
    (sRet (eBin oEq (eFz (fComp (iVal (eVar 12)) (gNm 17) (tE (eBin oNe (eCall 2 f__law_outcome (aCons (eC (.int 1)) (aCons (eTup (aCons (eVar 2) (aCons (eVar 17) aNil))) aNil))) (eCall 1 p__law_raises (aCons (eC (.str "told")) aNil)))) (eVar 17) [17])) (eFz (fDisp aNil))))))
def law5 : XS :=
    (sSeq (sSet 11 (eBin oAdd (eVar 3) (eTup (aCons (eCall 4 p__law_comparison (aCons (eVar 0) (aCons (eVar 1) (aCons (eVar 2) (aCons (eBin oIx (eBin oIx (eVar 5) (eC (.int 0))) (eC (.int 0))) aNil))))) aNil))))
    (sSeq (sIf (tAndF (tE (eCall 2 p__law_agree (aCons (eVar 11) (aCons (eBin oIx (eBin oIx (eVar 5) (eC (.int 0))) (eC (.int 0))) aNil)))) (tE (eBin oGtI (eCB oLen (aCons (eCall 2 p_fewest_further (aCons (eVar 2) (aCons (eVar 11) aNil))) aNil)) (eCB oLen (aCons (eVar 10) aNil))))) (sRet (eC (.bl false))) sNil)
    law6))
def law4 : XS :=
    (sSeq (sSet 10 (eCall 2 p_fewest_further (aCons (eVar 2) (aCons (eVar 3) aNil))))
    (sSeq (sIf (tOrF (tE (eBin oNe (eVar 10) (eVar 6))) (tOrF (tE (eBin oNe (eBin oEq (eVar 10) (eTup aNil)) (eBin oEq (eCB oLen (aCons (eVar 5) aNil)) (eC (.int 1))))) (tE (eBin oGtI (eCall 2 p_fewest_questions (aCons (eVar 2) (aCons (eVar 3) aNil))) (eCB oLen (aCons (eVar 10) aNil)))))) (sRet (eC (.bl false))) sNil)
    law5))
def law3 : XS :=
    (sSeq (sSet 6 (eC .non))
    (sSeq (sFor (iRange1 (aCons (eBin oAdd (eCB oLen (aCons (eVar 4) aNil)) (eC (.int 1))) aNil)) (gNm 7) (sFor (iVal (eCall 2 p__law_sets (aCons (eCB oLen (aCons (eVar 4) aNil)) (aCons (eVar 7) aNil)))) (gNm 8) (sSeq (sSet 9 (eFz (fComp (iVal (eVar 5)) (gTp 2 (gsCons (gNm 13) (gsCons (gNm 14) gsNil))) (fun _ st => .ok true st) (eCB oTuple (aCons (eFz (fComp (iVal (eVar 8)) (gNm 16) (fun _ st => .ok true st) (eCall 2 f__law_answer (aCons (eBin oIx (eVar 4) (eVar 16)) (aCons (eVar 13) aNil))) [16])) aNil)) [13, 14])))
    (sIf (tAndF (tE (eBin oIsN (eVar 6) (eC .non))) (tE (eBin oEq (eLenSetT (eVar 9)) (eCB oLen (aCons (eVar 9) aNil))))) (sSet 6 (eCB oTuple (aCons (eFz (fComp (iVal (eVar 8)) (gNm 16) (fun _ st => .ok true st) (eBin oIx (eVar 4) (eVar 16)) [16])) aNil))) sNil))))
    law4))
def law2 : XS :=
    (sSeq (sSet 5 (eFz (fComp (iVal (eCall 1 p_orders (aCons (eVar 2) aNil))) (gTp 2 (gsCons (gNm 13) (gsCons (gNm 14) gsNil))) (tE (eCall 2 p__law_agree (aCons (eVar 3) (aCons (eVar 13) aNil)))) (eTup (aCons (eVar 13) (aCons (eVar 14) aNil))) [13, 14])))
    (sSeq (sIf (tE (eBin oNe (eCall 2 p_agreeing (aCons (eVar 2) (aCons (eVar 3) aNil))) (eCB oTuple (aCons (eFz (fComp (iVal (eVar 5)) (gTp 2 (gsCons (gNm 13) (gsCons (gNm 14) gsNil))) (fun _ st => .ok true st) (eVar 14) [13, 14])) aNil)))) (sRet (eC (.bl false))) sNil)
    (sSeq (sIf (tE (eBin oEq (eVar 5) (eFz (fDisp aNil)))) (sRet (eBin oEq (eFz (fComp (iVal (eTup (aCons (eC (.int 1)) (aCons (eC (.int 2)) (aCons (eC (.int 3)) aNil))))) (gNm 15) (tE (eBin oNe (eCall 2 f__law_outcome (aCons (eVar 15) (aCons (eTup (aCons (eVar 2) (aCons (eVar 3) aNil))) aNil))) (eCall 1 p__law_raises (aCons (eC (.str "none_agree")) aNil)))) (eVar 15) [15])) (eFz (fDisp aNil)))) sNil)
    law3)))
def law1 : XS :=
    (sSeq (sSet 1 (eCall 1 townF (aCons (eVar 0) aNil)))
    (sSeq (sSet 2 (eBin oAdd (eC (.int 1)) (eCall 3 drawF (aCons (eVar 0) (aCons (eVar 1) (aCons (eC (.int 3)) aNil))))))
    (sSeq (sAsg (eTup (aCons (eCall 4 p__law_told (aCons (eVar 0) (aCons (eVar 1) (aCons (eVar 2) (aCons (eC (.int 4)) aNil))))) (aCons (eCall 1 f__law_asks (aCons (eVar 2) aNil)) aNil))) (gTp 2 (gsCons (gNm 3) (gsCons (gNm 4) gsNil))))
    law2)))
theorem law_eq : f_law = runF 18 law1 := rfl
def optQ (k : Nat) : Option (List Nat) → PV
  | none => .non
  | some l => furV k l
theorem filter_no {α : Type} (l : List α) : l.filter (fun _ => false) = [] := by simp
theorem law6_ok {k : Nat} {s : Store} {a0 a1 a3 a4 a5 a6 a7 a8 a9 a10 a11 : Option PV} (h1 : 1 ≤ k) (h3 : k ≤ 3) :
    Ok (law6 [a0, a1, some (.int (k : Int)), a3, a4, a5, a6, a7, a8, a9, a10, a11, none, none, none, none, none, none] s) fun fl _ => fl = .rt (.bl true) := by
  have sz := szl
  unfold law6
  rw [ok_seq, ok_if]
  simp only [wkA, List.set_cons_zero, List.set_cons_succ, Option.some.injEq, exists_eq_left', exists_eq_left, List.length_cons, List.length_nil, Nat.reduceAdd, Nat.reduceLeDiff, true_and, and_true, if_true, Bool.not_true, Bool.not_false, Bool.false_eq_true, if_false, decide_eq_true_eq, List.cons.injEq, ↓reduceIte]
  refine ⟨⟨by decide, by decide⟩, ?_⟩
  simp only [wipeE, List.set_cons_succ, List.set_cons_zero]
  have r4 : rng 0 (Int.toNat 4) = ([0, 1, 2, 3] : List Nat).map fun i : Nat => PV.int (i : Int) := by kernel_rfl
  rw [r4]
  refine ok_fmapK (fun i : Nat => PV.int (i : Int)) (fun _ => false) (fun i => PV.int (i : Int)) (fun i hi s0 K0 => ?_) fun s1 K1 => ?_
  · simp only [wkA, List.set_cons_zero, List.set_cons_succ, Option.some.injEq, exists_eq_left', exists_eq_left, List.length_cons, List.length_nil, Nat.reduceAdd, Nat.reduceLeDiff, true_and, and_true, if_true, Bool.not_true, Bool.not_false, Bool.false_eq_true, if_false, decide_eq_true_eq, List.cons.injEq, ↓reduceIte]
    rw [Ok.eq (out_many i hi s0)]
    rw [Ok.eq (rs_many _)]
    refine Op.of (oNe_self (rsd_pl _) _) ?_
    exact ⟨rfl, K0.trans (Keeps.app _ _ _), fun q => by cases q⟩
  · rw [filter_no, List.map_nil]
    refine Op.of (oNe_nn _) ?_
    simp only [Bool.false_eq_true, if_false]
    rw [nxK_nx]
    simp only [wkA, List.set_cons_zero, List.set_cons_succ, Option.some.injEq, exists_eq_left', exists_eq_left, List.length_cons, List.length_nil, Nat.reduceAdd, Nat.reduceLeDiff, true_and, and_true, if_true, Bool.not_true, Bool.not_false, Bool.false_eq_true, if_false, decide_eq_true_eq, List.cons.injEq, ↓reduceIte]
    rw [nxK_nx]
    simp only [wkA, List.set_cons_zero, List.set_cons_succ, Option.some.injEq, exists_eq_left', exists_eq_left, List.length_cons, List.length_nil, Nat.reduceAdd, Nat.reduceLeDiff, true_and, and_true, if_true, Bool.not_true, Bool.not_false, Bool.false_eq_true, if_false, decide_eq_true_eq, List.cons.injEq, ↓reduceIte]
    simp only [wipeE, List.set_cons_succ, List.set_cons_zero]
    refine ⟨_, rfl, ?_⟩
    have eb : ([PV.non, .tup [.tup [.int 0]], .lst [.tup [.tup [.int 0], .str ">", .tup []]], .tup [.tup [.tup [.int 5], .str ">", .tup []]], .tup [.tup [.tup [.int 0], .str "<", .tup []]]] : List PV) = bds.map id := rfl
    rw [eb]
    refine ok_fmapK id (fun _ => false) id (fun b hb s0 K0 => ?_) fun s2 K2 => ?_
    · simp only [id]
      simp only [wkA, List.set_cons_zero, List.set_cons_succ, Option.some.injEq, exists_eq_left', exists_eq_left, List.length_cons, List.length_nil, Nat.reduceAdd, Nat.reduceLeDiff, true_and, and_true, if_true, Bool.not_true, Bool.not_false, Bool.false_eq_true, if_false, decide_eq_true_eq, List.cons.injEq, ↓reduceIte]
      rw [Ok.eq (out_told h1 h3 b hb s0)]
      rw [Ok.eq (rs_told _)]
      refine Op.of (oNe_self (rsd_pl _) _) ?_
      exact ⟨rfl, K0.trans (Keeps.app _ _ _), fun q => by cases q⟩
    · rw [filter_no, List.map_nil]
      exact Op.of (oEq_nn _) rfl
theorem ag_snoc (k : Nat) (told : List Cp) (c : Cp) : agL k (told ++ [c]) = (agL k told).filter fun e => holdB e.2 c := by
  unfold agL
  rw [List.filter_filter]
  refine List.filter_congr fun e _ => ?_
  rw [agB_snoc, Bool.and_comm]
theorem gt_len {a b : Nat} (h : a ≤ b) (s : Store) : oGtI (.int (a : Int)) (.int (b : Int)) s = some (.bl false) := by
  simp only [oGtI, oI]
  rw [decide_eq_false (by omega)]
theorem len_fur (k : Nat) (l : List Nat) (s : Store) : oLen [furV k l] s = some (.int (l.length : Int)) := by simp [oLen, furV, asS]
theorem law5_ok {ns : List Int} {n k : Nat} {s : Store} {told : List Cp} {l : List Nat} {a6 a7 a8 a9 : Option PV} (hns : ns.length ≤ 63) (T : Tn ns n s) (hn : n < 200) (h1 : 1 ≤ k) (h3 : k ≤ 3) (h : Valid k told) (hl : told.length ≤ 4)
    (ne : wtsL k told ≠ []) (hf : furL k (wtsL k told) = some l) :
    Ok (law5 [some (.scr ns), some (.own 0), some (.int (k : Int)), some (toldV told), some (.lst ((qsL k).map quV)), some (.lst ((agL k told).map prV)), a6, a7, a8, a9, some (furV k l), none, none, none, none, none, none, none] s) fun fl _ => fl = .rt (.bl true) := by
  have sz := szl
  obtain ⟨e0, r, ea⟩ : ∃ e0 r, agL k told = e0 :: r := by
    cases q : agL k told with
    | nil => exact absurd (by unfold wtsL; rw [q]; rfl) ne
    | cons e0 r => exact ⟨e0, r, rfl⟩
  have m0 : e0 ∈ agL k told := by rw [ea]; exact List.mem_cons_self
  have w0 := (ents_wl (List.mem_filter.mp m0).1).1
  have ix : ∀ s, oIx (.lst ((agL k told).map prV)) (.int 0) s = some (prV e0) := fun s => by
    rw [ea]
    unfold oIx
    simp only [asS, asL]
    exact atI_nat (i := 0) rfl
  have ix2 : ∀ s, oIx (prV e0) (.int 0) s = some (tI e0.2) := fun s => rfl
  unfold law5
  rw [ok_seq, ok_set]
  simp only [wkA, List.set_cons_zero, List.set_cons_succ, Option.some.injEq, exists_eq_left', exists_eq_left, List.length_cons, List.length_nil, Nat.reduceAdd, Nat.reduceLeDiff, true_and, and_true, if_true, Bool.not_true, Bool.not_false, Bool.false_eq_true, if_false, decide_eq_true_eq, List.cons.injEq, ↓reduceIte]
  refine Op.of (ix s) (Op.of (ix2 s) ?_)
  refine (comparison_sp (ws := e0.2) T (by omega) hns h1 (by omega) w0).mono fun v s1 hv => ?_
  obtain ⟨c, rfl, cv, T1, K1⟩ := hv
  have ad : oAdd (toldV told) (.tup [cpV c]) s1 = some (toldV (told ++ [c])) := add_told told [c] s1 (by simp; omega)
  refine Op.of ad ?_
  rw [nxK_nx]
  simp only [wkA, List.set_cons_zero, List.set_cons_succ, Option.some.injEq, exists_eq_left', exists_eq_left, List.length_cons, List.length_nil, Nat.reduceAdd, Nat.reduceLeDiff, true_and, and_true, if_true, Bool.not_true, Bool.not_false, Bool.false_eq_true, if_false, decide_eq_true_eq, List.cons.injEq, ↓reduceIte]
  refine Op.of (ix s1) (Op.of (ix2 s1) ?_)
  have v2 := valid_snoc h cv
  have la : p__law_agree [toldV (told ++ [c]), tI e0.2] s1 = .ok (.bl (agB e0.2 (told ++ [c]))) s1 := law_agree_sp (by rw [w0]; exact v2) s1
  rw [Ok.eq la]
  have fin : ∀ s, Ok (law6 [some (.scr ns), some (.own 0), some (.int (k : Int)), some (toldV told), some (.lst ((qsL k).map quV)), some (.lst ((agL k told).map prV)), a6, a7, a8, a9, some (furV k l), some (toldV (told ++ [c])), none, none, none, none, none, none] s) fun fl _ => fl = .rt (.bl true) := fun s => law6_ok h1 h3
  cases q : agB e0.2 (told ++ [c]) with
  | false =>
    simp only [Bool.false_eq_true, if_false]
    rw [nxK_nx]
    exact fin s1
  | true =>
    simp only [if_true]
    have sub : List.Sublist (wtsL k (told ++ [c])) (wtsL k told) := by
      unfold wtsL
      rw [ag_snoc]
      exact List.filter_sublist.map _
    have ne2 : wtsL k (told ++ [c]) ≠ [] := by
      have : e0 ∈ agL k (told ++ [c]) := List.mem_filter.mpr ⟨(List.mem_filter.mp m0).1, q⟩
      have : e0.2 ∈ wtsL k (told ++ [c]) := List.mem_map.mpr ⟨e0, this, rfl⟩
      exact fun z => by rw [z] at this; cases this
    refine (fewest_further_sp h1 h3 v2 (by simp; omega) ne2 s1).mono fun v s2 hv => ?_
    obtain ⟨⟨l', hl', rfl⟩, K2⟩ := hv
    refine Op.of (len_fur k l' s2) (Op.of (len_fur k l s2) (Op.of (gt_len (fur_mono h1 h3 hf hl' sub) s2) ?_))
    simp only [Bool.false_eq_true, if_false]
    rw [nxK_nx]
    exact fin s2
theorem law4_ok {ns : List Int} {n k : Nat} {s : Store} {told : List Cp} {a7 a8 a9 : Option PV} (hns : ns.length ≤ 63) (T : Tn ns n s) (hn : n < 200) (h1 : 1 ≤ k) (h3 : k ≤ 3) (h : Valid k told) (hl : told.length ≤ 4)
    (ne : wtsL k told ≠ []) :
    Ok (law4 [some (.scr ns), some (.own 0), some (.int (k : Int)), some (toldV told), some (.lst ((qsL k).map quV)), some (.lst ((agL k told).map prV)), some (optQ k (furL k (wtsL k told))), a7, a8, a9, none, none, none, none, none, none, none, none] s) fun fl _ => fl = .rt (.bl true) := by
  have sz := szl
  unfold law4
  rw [ok_seq, ok_set]
  simp only [wkA, List.set_cons_zero, List.set_cons_succ, Option.some.injEq, exists_eq_left', exists_eq_left, List.length_cons, List.length_nil, Nat.reduceAdd, Nat.reduceLeDiff, true_and, and_true, if_true, Bool.not_true, Bool.not_false, Bool.false_eq_true, if_false, decide_eq_true_eq, List.cons.injEq, ↓reduceIte]
  refine (fewest_further_sp h1 h3 h (by omega) ne s).mono fun v s1 hv => ?_
  obtain ⟨⟨l, hf, rfl⟩, K1⟩ := hv
  rw [hf]
  rw [nxK_nx]
  simp only [wkA, List.set_cons_zero, List.set_cons_succ, Option.some.injEq, exists_eq_left', exists_eq_left, List.length_cons, List.length_nil, Nat.reduceAdd, Nat.reduceLeDiff, true_and, and_true, if_true, Bool.not_true, Bool.not_false, Bool.false_eq_true, if_false, decide_eq_true_eq, List.cons.injEq, ↓reduceIte]
  refine Op.of (oNe_self (pl_fur k l) _) ?_
  simp only [Bool.false_eq_true, if_false]
  have A := apt_wts h1 h3 ne
  have ag : (wtsL k told).length = (agL k told).length := by simp [wtsL]
  have nl := fur_nil h1 h3 ne hf
  have x1 : oEq (furV k l) (.tup []) s1 = some (.bl (decide (l = []))) := by
    show oEq (furV k l) (furV k []) s1 = _
    rw [oEq_pl (pl_fur k l) (pl_fur k [])]
    congr 2
    cases l with
    | nil => rfl
    | cons a b => rfl
  refine Op.of x1 ?_
  refine Op.of (z := .int ((agL k told).length : Int)) (by simp [oLen, asS, asL]) ?_
  refine Op.of (z := .bl (decide (l = []))) ?_ ?_
  · rw [oEq_int]
    congr 2
    rw [show decide (l = []) = decide ((wtsL k told).length = 1) from decide_eq_decide.mpr nl, ag]
    by_cases z : (agL k told).length = 1
    · simp [z]
    · have : ¬ (((agL k told).length : Int) = 1) := by omega
      simp [z, this]
  refine Op.of (oNe_self (pl_bl _) _) ?_
  simp only [Bool.false_eq_true, if_false]
  refine (fewest_questions_sp h1 h3 h (by omega) ne s1).mono fun v s2 hv => ?_
  obtain ⟨rfl, K2⟩ := hv
  refine Op.of (len_fur k l s2) ?_
  have fl := few_fur h1 h3 ne hf
  refine Op.of (z := .bl false) (by simp only [oGtI, oI]; rw [decide_eq_false (by omega)]) ?_
  simp only [Bool.false_eq_true, if_false]
  rw [nxK_nx]
  exact law5_ok hns ((T.keeps K1).keeps K2) hn h1 h3 h hl ne hf
theorem isN_q (k : Nat) (o : Option (List Nat)) (s : Store) : oIsN (optQ k o) .non s = some (.bl o.isNone) := by cases o <;> rfl
theorem find_snoc {α : Type} (p : α → Bool) (L : List α) (x : α) : (L ++ [x]).find? p = match L.find? p with
    | some y => some y
    | none => if p x = true then some x else none := by
  rw [List.find?_append]
  cases L.find? p with
  | some y => rfl
  | none =>
    rw [List.find?_cons]
    cases p x <;> rfl
theorem law3_ok {ns : List Int} {n k : Nat} {s : Store} {told : List Cp} (hns : ns.length ≤ 63) (T : Tn ns n s) (hn : n < 200) (h1 : 1 ≤ k) (h3 : k ≤ 3) (h : Valid k told) (hl : told.length ≤ 4)
    (ne : wtsL k told ≠ []) :
    Ok (law3 [some (.scr ns), some (.own 0), some (.int (k : Int)), some (toldV told), some (.lst ((qsL k).map quV)), some (.lst ((agL k told).map prV)), none, none, none, none, none, none, none, none, none, none, none, none] s) fun fl _ => fl = .rt (.bl true) := by
  have sz := szl
  have A := apt_wts h1 h3 ne
  have h64 : (wtsL k told).length < 64 := by have := wts_len (k := k) (told := told) h1 h3; omega
  have qn : (qsL k).length ≤ 6 := qs_len k
  have ln : ∀ s, oLen [.lst ((qsL k).map quV)] s = some (.int ((qsL k).length : Int)) := fun s => by simp [oLen, asS, asL]
  unfold law3
  rw [ok_seq, ok_set]
  simp only [wkA, List.set_cons_zero, List.set_cons_succ, Option.some.injEq, exists_eq_left', exists_eq_left, List.length_cons, List.length_nil, Nat.reduceAdd, Nat.reduceLeDiff, true_and, and_true, if_true, Bool.not_true, Bool.not_false, Bool.false_eq_true, if_false, decide_eq_true_eq, List.cons.injEq, ↓reduceIte]
  rw [nxK_nx]
  rw [ok_seq, ok_for]
  simp only [wkA, List.set_cons_zero, List.set_cons_succ, Option.some.injEq, exists_eq_left', exists_eq_left, List.length_cons, List.length_nil, Nat.reduceAdd, Nat.reduceLeDiff, true_and, and_true, if_true, Bool.not_true, Bool.not_false, Bool.false_eq_true, if_false, decide_eq_true_eq, List.cons.injEq, ↓reduceIte]
  refine Op.of (ln s) ?_
  simp only [oAdd_int, op_some]
  refine ⟨⟨by unfold okR; simp; omega, by omega⟩, ?_⟩
  have rn : ((((qsL k).length : Int) + 1).toNat) = (qsL k).length + 1 := by omega
  rw [rn]
  refine ok_loop (fun i e s' => (∃ y7 y8 y9, e = [some (.scr ns), some (.own 0), some (.int (k : Int)), some (toldV told), some (.lst ((qsL k).map quV)), some (.lst ((agL k told).map prV)), some (optQ k ((upTo (qsL k).length i).find? (tells k (wtsL k told)))), y7, y8, y9, none, none, none, none, none, none, none, none]) ∧ s' = s) _ 0 _ _ ?_ ⟨⟨_, _, _, rfl⟩, rfl⟩ ?_
  · rintro i x hx e s1 ⟨⟨y7, y8, y9, rfl⟩, rfl⟩
    obtain ⟨hi, rfl⟩ := rng_at0 hx
    rw [Nat.zero_add]
    rw [ok_gNm, ok_for]
    simp only [wkA, List.set_cons_zero, List.set_cons_succ, Option.some.injEq, exists_eq_left', exists_eq_left, List.length_cons, List.length_nil, Nat.reduceAdd, Nat.reduceLeDiff, true_and, and_true, if_true, Bool.not_true, Bool.not_false, Bool.false_eq_true, if_false, decide_eq_true_eq, List.cons.injEq, ↓reduceIte]
    refine Op.of (ln s1) ?_
    rw [Ok.eq (law_sets_sp (n := (qsL k).length) (z := i) (by omega) (by omega) s1)]
    refine ⟨_, rfl, ?_⟩
    refine ok_loop (fun j e s' => (∃ y8 y9, e = [some (.scr ns), some (.own 0), some (.int (k : Int)), some (toldV told), some (.lst ((qsL k).map quV)), some (.lst ((agL k told).map prV)), some (optQ k ((upTo (qsL k).length i ++ (setsL (qsL k).length i).take j).find? (tells k (wtsL k told)))), some (.int (i : Int)), y8, y9, none, none, none, none, none, none, none, none]) ∧ s' = s1) _ 0 _ _ ?_ ⟨⟨_, _, by rw [List.take_zero, List.append_nil]⟩, rfl⟩ ?_
    · rintro j x hx e s2 ⟨⟨y8, y9, rfl⟩, rfl⟩
      rw [List.getElem?_map] at hx
      cases ej : (setsL (qsL k).length i)[j]? with
      | none => rw [ej] at hx; cases hx
      | some l =>
        rw [ej] at hx
        cases hx
        rw [Nat.zero_add]
        have hm : l ∈ setsL (qsL k).length i := List.mem_of_getElem? ej
        obtain ⟨ll, lot, _⟩ := sets_ok (n := (qsL k).length) (z := i) (by omega) (by omega) l hm
        have stp := find_snoc (tells k (wtsL k told)) (upTo (qsL k).length i ++ (setsL (qsL k).length i).take j) l
        have ap : upTo (qsL k).length i ++ (setsL (qsL k).length i).take j ++ [l] = upTo (qsL k).length i ++ (setsL (qsL k).length i).take (j + 1) := by
          rw [List.append_assoc, List.take_add_one, ej]; rfl
        rw [ap] at stp
        generalize (upTo (qsL k).length i ++ (setsL (qsL k).length i).take j).find? (tells k (wtsL k told)) = o at stp ⊢
        rw [stp]
        simp only [wkA, List.set_cons_zero, List.set_cons_succ, Option.some.injEq, exists_eq_left', exists_eq_left, List.length_cons, List.length_nil, Nat.reduceAdd, Nat.reduceLeDiff, true_and, and_true, if_true, Bool.not_true, Bool.not_false, Bool.false_eq_true, if_false, decide_eq_true_eq, List.cons.injEq, ↓reduceIte]
        refine ⟨_, rfl, ?_⟩
        simp only [wipeE, List.set_cons_succ, List.set_cons_zero]
        refine ok_mapE prV (fun e => PV.tup (l.map fun i => .str (ansA (qAt k i) e.2).s)) (fun e he => ?_) ?_
        · unfold prV
          simp only [wkA, List.set_cons_zero, List.set_cons_succ, Option.some.injEq, exists_eq_left', exists_eq_left, List.length_cons, List.length_nil, Nat.reduceAdd, Nat.reduceLeDiff, true_and, and_true, if_true, Bool.not_true, Bool.not_false, Bool.false_eq_true, if_false, decide_eq_true_eq, List.cons.injEq, ↓reduceIte]
          refine ⟨_, rfl, ?_⟩
          simp only [wipeE, List.set_cons_succ, List.set_cons_zero]
          refine ok_mapE (fun i : Nat => PV.int (i : Int)) (fun i => .str (ansA (qAt k i) e.2).s) (fun i hi => ?_) ?_
          · simp only [wkA, List.set_cons_zero, List.set_cons_succ, Option.some.injEq, exists_eq_left', exists_eq_left, List.length_cons, List.length_nil, Nat.reduceAdd, Nat.reduceLeDiff, true_and, and_true, if_true, Bool.not_true, Bool.not_false, Bool.false_eq_true, if_false, decide_eq_true_eq, List.cons.injEq, ↓reduceIte]
            refine Op.of (qu_at (lot.2 i hi) s2) ?_
            have hq : qAt k i ∈ qsL k := by
              have h := lot.2 i hi
              simp [qAt, List.getD_eq_getElem?_getD, h]
            obtain ⟨q1, q2⟩ := qs_lot h1 h3 _ hq
            rw [e_ans, Ok.eq (answer_of_sp (A.wl e.2 (List.mem_map.mpr ⟨e, he, rfl⟩)) q1 q2 s2)]
            exact ⟨rfl, rfl⟩
          · exact Op.of rfl ⟨rfl, rfl⟩
        · rw [nxK_nx]
          simp only [wkA, List.set_cons_zero, List.set_cons_succ, Option.some.injEq, exists_eq_left', exists_eq_left, List.length_cons, List.length_nil, Nat.reduceAdd, Nat.reduceLeDiff, true_and, and_true, if_true, Bool.not_true, Bool.not_false, Bool.false_eq_true, if_false, decide_eq_true_eq, List.cons.injEq, ↓reduceIte]
          have er : ((agL k told).map fun e => PV.tup (l.map fun i => .str (ansA (qAt k i) e.2).s)) = (ansR k (wtsL k told) l).map fun z => PV.tup (z.map PV.str) := by
            unfold ansR wtsL
            rw [List.map_map, List.map_map]
            refine List.map_congr_left fun w _ => ?_
            simp [List.map_map, Function.comp]
          have al : (ansR k (wtsL k told) l).length = (wtsL k told).length := by simp [ansR]
          rw [er]
          refine Op.of (isN_q k o s2) ?_
          cases o with
          | some y =>
            simp only [Option.isNone_some, Bool.false_eq_true, if_false]
            exact ⟨_, _, trivial, rfl, rfl⟩
          | none =>
            simp only [Option.isNone_none, if_true]
            refine ok_lenSetT ?_
            simp only [wkA, List.set_cons_zero, List.set_cons_succ, Option.some.injEq, exists_eq_left', exists_eq_left, List.length_cons, List.length_nil, Nat.reduceAdd, Nat.reduceLeDiff, true_and, and_true, if_true, Bool.not_true, Bool.not_false, Bool.false_eq_true, if_false, decide_eq_true_eq, List.cons.injEq, ↓reduceIte]
            refine ⟨_, rfl, by rw [al]; exact h64, ?_⟩
            refine Op.of (z := .int ((ansR k (wtsL k told) l).length : Int)) (by simp [oLen, asS, asL]) ?_
            simp only [oEq_int, op_some]
            have te : (((nubR (ansR k (wtsL k told) l)).length : Int) == ((ansR k (wtsL k told) l).length : Int)) = tells k (wtsL k told) l := by
              unfold tells
              refine decide_eq_decide.mpr ?_
              rw [← nubR_id]
              omega
            rw [te]
            by_cases f : tells k (wtsL k told) l = true
            · rw [if_pos f, if_pos f]
              refine ⟨_, rfl, ?_⟩
              simp only [wipeE, List.set_cons_succ, List.set_cons_zero]
              refine ok_mapE (fun i : Nat => PV.int (i : Int)) (fun i => quV (qAt k i)) (fun i hi => ?_) ?_
              · simp only [wkA, List.set_cons_zero, List.set_cons_succ, Option.some.injEq, exists_eq_left', exists_eq_left, List.length_cons, List.length_nil, Nat.reduceAdd, Nat.reduceLeDiff, true_and, and_true, if_true, Bool.not_true, Bool.not_false, Bool.false_eq_true, if_false, decide_eq_true_eq, List.cons.injEq, ↓reduceIte]
                exact Op.of (qu_at (lot.2 i hi) s2) rfl
              · exact Op.of (z := furV k l) rfl ⟨⟨_, _, rfl, rfl, rfl⟩, rfl⟩
            · rw [if_neg f, if_neg f]
              exact ⟨_, _, rfl, rfl, rfl⟩
    · rintro e s2 ⟨⟨y8, y9, rfl⟩, rfl⟩
      rw [Nat.zero_add, List.length_map, List.take_length, ← upTo_succ]
      exact ⟨⟨_, _, _, rfl⟩, rfl⟩
  · rintro e s1 ⟨⟨y7, y8, y9, rfl⟩, rfl⟩
    rw [Nat.zero_add, rng_lenA]
    rw [nxK_nx]
    exact law4_ok hns T hn h1 h3 h hl ne
theorem law2_ok {ns : List Int} {n k : Nat} {s : Store} {told : List Cp} (hns : ns.length ≤ 63) (T : Tn ns n s) (hn : n < 200) (h1 : 1 ≤ k) (h3 : k ≤ 3) (h : Valid k told) (hl : told.length ≤ 4) :
    Ok (law2 [some (.scr ns), some (.own 0), some (.int (k : Int)), some (toldV told), some (.lst ((qsL k).map quV)), none, none, none, none, none, none, none, none, none, none, none, none, none] s) fun fl _ => fl = .rt (.bl true) := by
  have sz := szl
  unfold law2
  rw [ok_seq, ok_set]
  simp only [wkA, List.set_cons_zero, List.set_cons_succ, Option.some.injEq, exists_eq_left', exists_eq_left, List.length_cons, List.length_nil, Nat.reduceAdd, Nat.reduceLeDiff, true_and, and_true, if_true, Bool.not_true, Bool.not_false, Bool.false_eq_true, if_false, decide_eq_true_eq, List.cons.injEq, ↓reduceIte]
  refine (orders_sp h1 h3 s).mono fun v s1 hv => ?_
  obtain ⟨rfl, K1⟩ := hv
  refine ⟨_, rfl, ?_⟩
  simp only [wipeE, List.set_cons_succ, List.set_cons_zero]
  refine ok_fmapE (fun e : En => PV.tup [tI e.2, ordV e.1]) (fun e => agB e.2 told) prV (fun e he => ?_) ?_
  · simp only [wkA, List.set_cons_zero, List.set_cons_succ, Option.some.injEq, exists_eq_left', exists_eq_left, List.length_cons, List.length_nil, Nat.reduceAdd, Nat.reduceLeDiff, true_and, and_true, if_true, Bool.not_true, Bool.not_false, Bool.false_eq_true, if_false, decide_eq_true_eq, List.cons.injEq, ↓reduceIte]
    have wl := (ents_wl he).1
    have la : p__law_agree [toldV told, tI e.2] s1 = .ok (.bl (agB e.2 told)) s1 := law_agree_sp (by rw [wl]; exact h) s1
    rw [Ok.eq la]
    exact ⟨rfl, rfl, fun _ => rfl⟩
  · have ea : ((entsL k).filter fun e => agB e.2 told) = agL k told := rfl
    rw [ea]
    rw [nxK_nx]
    simp only [wkA, List.set_cons_zero, List.set_cons_succ, Option.some.injEq, exists_eq_left', exists_eq_left, List.length_cons, List.length_nil, Nat.reduceAdd, Nat.reduceLeDiff, true_and, and_true, if_true, Bool.not_true, Bool.not_false, Bool.false_eq_true, if_false, decide_eq_true_eq, List.cons.injEq, ↓reduceIte]
    refine (agreeing_sp h1 h3 h (by omega) s1).mono fun v s2 hv => ?_
    obtain ⟨rfl, K2⟩ := hv
    refine ⟨_, rfl, ?_⟩
    simp only [wipeE, List.set_cons_succ, List.set_cons_zero]
    refine ok_mapE prV (fun e => ordV e.1) (fun e he => ?_) ?_
    · unfold prV
      simp only [wkA, List.set_cons_zero, List.set_cons_succ, Option.some.injEq, exists_eq_left', exists_eq_left, List.length_cons, List.length_nil, Nat.reduceAdd, Nat.reduceLeDiff, true_and, and_true, if_true, Bool.not_true, Bool.not_false, Bool.false_eq_true, if_false, decide_eq_true_eq, List.cons.injEq, ↓reduceIte]
    · refine Op.of (z := agV k told) rfl (Op.of (oNe_self (pl_ag k told) _) ?_)
      simp only [Bool.false_eq_true, if_false]
      rw [nxK_nx]
      simp only [wkA, List.set_cons_zero, List.set_cons_succ, Option.some.injEq, exists_eq_left', exists_eq_left, List.length_cons, List.length_nil, Nat.reduceAdd, Nat.reduceLeDiff, true_and, and_true, if_true, Bool.not_true, Bool.not_false, Bool.false_eq_true, if_false, decide_eq_true_eq, List.cons.injEq, ↓reduceIte]
      refine Op.of (nil_eq (pl_prs _) s2) ?_
      by_cases ne : wtsL k told = []
      · have nil : agL k told = [] := by unfold wtsL at ne; exact List.map_eq_nil_iff.mp ne
        rw [nil]
        simp only [List.map_nil, List.isEmpty_nil, if_true]
        refine ⟨_, rfl, ?_⟩
        simp only [wipeE, List.set_cons_succ, List.set_cons_zero]
        have e3 : ([PV.int 1, .int 2, .int 3] : List PV) = ([1, 2, 3] : List Nat).map fun i : Nat => PV.int (i : Int) := rfl
        rw [e3]
        refine ok_fmapK (fun i : Nat => PV.int (i : Int)) (fun _ => false) (fun i => PV.int (i : Int)) (fun i hi s0 K0 => ?_) fun s3 K3 => ?_
        · simp only [wkA, List.set_cons_zero, List.set_cons_succ, Option.some.injEq, exists_eq_left', exists_eq_left, List.length_cons, List.length_nil, Nat.reduceAdd, Nat.reduceLeDiff, true_and, and_true, if_true, Bool.not_true, Bool.not_false, Bool.false_eq_true, if_false, decide_eq_true_eq, List.cons.injEq, ↓reduceIte]
          refine (out_none h1 h3 h (by omega) ne i hi s0).mono fun v s4 hv => ?_
          obtain ⟨rfl, K4⟩ := hv
          rw [Ok.eq (rs_none _)]
          refine Op.of (oNe_self (rsd_pl _) _) ?_
          exact ⟨rfl, K0.trans K4, fun q => by cases q⟩
        · rw [filter_no, List.map_nil]
          exact Op.of (oEq_nn _) rfl
      · have nil : ((agL k told).map prV).isEmpty = false := by
          cases q : agL k told with
          | nil => exact absurd (by unfold wtsL; rw [q]; rfl) ne
          | cons _ _ => rfl
        rw [nil]
        simp only [Bool.false_eq_true, if_false]
        rw [nxK_nx]
        exact law3_ok hns ((T.keeps K1).keeps K2) hn h1 h3 h hl ne
theorem pure_law (ns : List Int) (hns : ns.length ≤ 63) : ∃ st, f_law [.scr ns] [] = .ok (.bl true) st := by
  have sz := szl
  have main : Ok (f_law [.scr ns] []) fun v _ => v = .bl true := by
    rw [law_eq]
    unfold runF law1
    rw [ok_retF]
    simp only [env0, List.map_cons, List.map_nil, List.length_cons, List.length_nil, Nat.reduceAdd, Nat.reduceSub, List.reduceReplicate, List.cons_append, List.nil_append]
    try simp only [wkA, List.set_cons_zero, List.set_cons_succ, Option.some.injEq, exists_eq_left', exists_eq_left, List.length_cons, List.length_nil, Nat.reduceAdd, Nat.reduceLeDiff, true_and, and_true, if_true, Bool.not_true, Bool.not_false, Bool.false_eq_true, if_false, decide_eq_true_eq, List.cons.injEq, ↓reduceIte]
    rw [Ok.eq (town_ok ns hns)]
    rw [nxK_nx]
    have T0 : Tn ns 0 [.lst ((0 :: ns).map PV.int)] := ⟨_, rfl, 0, ns, rfl, rfl, by omega, by omega⟩
    simp only [wkA, List.set_cons_zero, List.set_cons_succ, Option.some.injEq, exists_eq_left', exists_eq_left, List.length_cons, List.length_nil, Nat.reduceAdd, Nat.reduceLeDiff, true_and, and_true, if_true, Bool.not_true, Bool.not_false, Bool.false_eq_true, if_false, decide_eq_true_eq, List.cons.injEq, ↓reduceIte]
    refine (draw_sp T0 (by omega) hns (by omega) (by omega)).mono fun v s1 hv => ?_
    obtain ⟨d, rfl, d0, d3, T1, K0⟩ := hv
    obtain ⟨k, hk⟩ : ∃ k : Nat, 1 + d = (k : Int) := ⟨(1 + d).toNat, by omega⟩
    have h1 : 1 ≤ k := by omega
    have h3 : k ≤ 3 := by omega
    simp only [oAdd_int, op_some]
    rw [hk]
    rw [nxK_nx]
    simp only [wkA, List.set_cons_zero, List.set_cons_succ, Option.some.injEq, exists_eq_left', exists_eq_left, List.length_cons, List.length_nil, Nat.reduceAdd, Nat.reduceLeDiff, true_and, and_true, if_true, Bool.not_true, Bool.not_false, Bool.false_eq_true, if_false, decide_eq_true_eq, List.cons.injEq, ↓reduceIte]
    have tl := told_sp (k := k) (most := 4) T1 (by omega) hns h1 (by omega) (by decide)
    refine tl.mono fun v s2 hv => ?_
    obtain ⟨told, rfl, hl, hv, T2, K2⟩ := hv
    rw [Ok.eq (asks_sp h1 h3 s2)]
    rw [nxK_nx]
    exact (law2_ok hns T2 (by omega) h1 h3 hv hl).mono fun fl s h => by
      subst h
      rfl
  obtain ⟨v, s, e, rfl⟩ := main
  exact ⟨s, e⟩
end Gk40
end
section
set_option Elab.async false
set_option linter.all false
open PySem PySem.W PySem.Calls PyProof.Rows
set_option maxRecDepth 100000 in
set_option maxHeartbeats 0 in
theorem PySem.Challenge.cw_lotscales_k40_whole_further_holds : PySem.Challenge.rw_lotscales_k40_whole_further.Holds := by
  w_on; o_law
  refine HandSHeadRun.head_any (r := OpenLaw.row PySem.Challenge.rw_lotscales_k40_whole_further) (q := view (OpenLaw.row PySem.Challenge.rw_lotscales_k40_whole_further).prog [63]) (H := Gk40.hk) (ob := Gk40.ob) (M := 6000) (loose := Gk40.loose) (d := HandSHeadRun.topDef (OpenLaw.row PySem.Challenge.rw_lotscales_k40_whole_further).prog 63) (kwd := [])
    (fun s => Lq.obM_eq s) (by kernel_rfl) (fun s => by kernel_rfl) Gk40.run (by kernel_rfl) (by kernel_rfl) (by kernel_rfl) (by rfl) (by first | assumption | decide +kernel) (by decide +kernel) ⟨rfl, rfl, rfl, rfl, rfl, by decide +kernel⟩ ?hw ?hc
  case hw => w_witness2
  case hc =>
    refine L2.walk_ofE (l := PySem.Challenge.rw_lotscales_k40_whole_further) (n := 63) (k := 21) (x := "script") (CX := L2.CX0) rfl (by decide) (by kernel_rfl) ⟨rfl, by decide, by decide⟩ ?F (fun _ _ _ _ z => z)
    intro w mg fa h Y Gn hmg0
    obtain ⟨K, KX, c, e⟩ := Y
    have hmg : mg ("law" : PySem.Str) = some (.ref fa) := by
      have e : (HandSHeadRun.topDef (OpenLaw.row PySem.Challenge.rw_lotscales_k40_whole_further).prog 63).name = ("law" : PySem.Str) := by kernel_rfl
      rw [← e]
      exact hmg0
    have G := Lq.fx_of (q := Gk40.qs) KX Gn c e
    obtain ⟨fd, F⟩ := G.def_ 43 (d := Gk40.d43) rfl rfl rfl
    have b := L2.FunD.bindsA (ps := ["script"]) F fun _ _ _ _ _ _ us hl => match us, hl with | [_], _ => rfl
    have ef := hmg.symm.trans (G.glo 44 rfl)
    cases ef
    exact ⟨K, fd, fun vs H Q _ => Lq.spF K mg 1 Gk40.f_law vs H Q L2.E0, KX, fun s v => b s [v] rfl, fun H a ns hl _ hS => Lq.law_sp hS (Nat.le_trans hl (by decide)) (Gk40.pure_law ns hl), fun base _ _ => Lq.fn_calm (Gk40.law_fn G F)⟩
end
