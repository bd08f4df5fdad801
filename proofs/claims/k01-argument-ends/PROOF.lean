import PyProof.Rows.All
import Wide.All
import OpenK.AllK
import Wide.FinOn
import HandS.ForMost
import HandS.ForExc
import HandS.Flow
import HandS.Style
import HandS.Conv
import HandS.Deep
import HandS.TupAny
import HandS.TupMul
import HandS.TupLe
import HandS.StrMore
import HandS.IsInst
import HandS.Wide
import HandS.Zip
import HandS.Defaults
import HandS.SortInts
import KE.KDictKeyed
import KE.GoesZip
import HandS.ExcIs
import KE.GoesMore
import KE.GoesEnum
import KE.KStateDown
import HandS.Head0
import HandS.Head1
import HandS.Head2
import HandS.HeadEnd
import HandS.HeadHook1
import HandS.HeadHook2
import KE.SortKeyed
import KE.DataCmp
import KE.SortData
import HandS.Strs
import KE.KCallOwn
import HandS.FStr
import HandS.OwnEq
import HandS.More
import HandS.Iter
import HandS.Dict
import KE.KDictWalk
import KE.KIndexOf
import PySem.Challenge.RW_lotscales_k01_argument_ends
section
set_option Elab.async false
set_option linter.all false
set_option maxRecDepth 10000
namespace Lq
open PySem PySem.Spec PyProof.Rows L2
inductive PV where
  | non | bl (b : Bool) | int (i : Int) | str (s : Str)
  | tup (xs : List PV) | lst (xs : List PV) | scr (xs : List Int)
  | own (k : Nat) | glo (x : Str)
  | tpn (xs : List PV)
  deriving Inhabited
inductive Cell where
  | lst (xs : List PV)
  | frz (xs : List PV)
  | dct (kvs : List (PV × PV))
  | dcn (kvs : List (PV × PV))
  | dkf (kvs : List (PV × PV))
  | dnf (kvs : List (PV × PV))
  | tpl (xs : List PV)
  | ins (C : Str) (fs : List (Str × PV))
  | exc (c : Str)
  deriving Inhabited
abbrev Store := List Cell
abbrev Ev := List (Option PV)
inductive R (α : Type) where
  | ok (a : α) (s : Store)
  | ex (c : Str) (s : Store)
  | no
def R.bind {α β : Type} (r : R α) (k : α → Store → R β) : R β := match r with
  | .ok a s => k a s
  | .ex c s => .ex c s
  | .no => .no
inductive Fl where
  | nx (e : Ev) | rt (v : PV) | bk (e : Ev) | ct (e : Ev)
abbrev XE := Ev → Store → R PV
abbrev XL := Ev → Store → R (List PV)
abbrev XS := Ev → Store → R Fl
abbrev Fn := List PV → Store → R PV
section
variable (K : PySem.W.Frag) (mg : Str → Option Value)
mutual
def Rep (Fz : Hp) (ρ : List Addr) : PV → V → Prop
  | .non, v => v = .non
  | .bl b, v => v = .bl b
  | .int i, v => v = .int i
  | .str s, v => v = .str s
  | .tup xs, v => ∃ a vs, v = .ref a ∧ SqT K Fz a vs ∧ xs.length ≤ sizeLine ∧ RepL Fz ρ xs vs
  | .lst xs, v => ∃ a vs, v = .ref a ∧ Fz a = some (.lst vs) ∧ xs.length ≤ sizeLine ∧ RepL Fz ρ xs vs
  | .scr ns, v => ∃ a, v = .ref a ∧ SqL K Fz a (ns.map V.int) ∧ ns.length ≤ sizeLine
  | .own k, v => ∃ a, ρ[k]? = some a ∧ v = .ref a
  | .glo x, v => ∃ a, mg x = some (.ref a) ∧ v = .ref a
  | .tpn xs, v => ∃ a od vs, v = .ref a ∧ Fz a = some (.frz od (.tup vs)) ∧ od.dict = none ∧ xs.length ≤ sizeLine ∧ RepL Fz ρ xs vs
def RepL (Fz : Hp) (ρ : List Addr) : List PV → List V → Prop
  | [], vs => vs = []
  | x :: xs, vs => ∃ v r, vs = v :: r ∧ Rep Fz ρ x v ∧ RepL Fz ρ xs r
end
def REnv (Fz : Hp) (ρ : List Addr) (env : Ev) (σ : L2.St) : Prop :=
  env.length = σ.length ∧ ∀ (i : Nat) (p : PV), env[i]? = some (some p) → ∃ v, σ[i]? = some (some v) ∧ Rep K mg Fz ρ p v
def RepF (Fz : Hp) (ρ : List Addr) : List (Str × PV) → List (Str × V) → Prop := fun ps vs =>
  PySem.Paired (fun (p : Str × PV) (q : Str × V) => p.1 = q.1 ∧ Rep K mg Fz ρ p.2 q.2) ps vs
def XcO (cls : Value) (a : Addr) : HO := .ext fun h => ∃ (oe : Obj) (vs : Array Value), h.get? a = some oe ∧ Zc cls none oe ∧ oe.data = .fields vs
def KeyP : PV → Key → Prop
  | .int i, k => k = .inl i
  | .str s, k => k = .inr s
  | _, _ => False
def RepD (Fz : Hp) (ρ : List Addr) : List (PV × PV) → List (Key × V) → Prop := fun ps vs =>
  PySem.Paired (fun (p : PV × PV) (q : Key × V) => KeyP p.1 q.1 ∧ Rep K mg Fz ρ p.2 q.2) ps vs
def DctOk (Fz : Hp) (ρ : List Addr) (H : Hp) (a : Addr) (kvs : List (PV × PV)) : Prop := ∃ kv, H a = some (.dK kv) ∧ kvs.length ≤ sizeLine ∧ RepD K mg Fz ρ kvs kv
mutual
/-- a key that is a tuple of ints and of such tuples -/
def nkOf : PV → Option NestedKey
  | .int i => some (.num i)
  | .tup xs => (nksOf xs).map .tup
  | _ => none
def nksOf : List PV → Option (List NestedKey)
  | [] => some []
  | x :: r => match nkOf x, nksOf r with
    | some k, some ks => some (k :: ks)
    | _, _ => none
end
def NdO (a : Addr) (xs : List (NestedKey × Addr × V)) : HO := .ext fun h => ∃ o es ep, h.get? a = some o ∧ o.ExactDict ∧ o.data = .dict es ep ∧
  PySem.Paired (fun (e : DictEntry) (x : NestedKey × Addr × V) => (∀ w : World, e.hash = x.1.hash w) ∧ e.key = .ref x.2.1 ∧ RelV x.2.2 e.val) es.toList xs
def RepN (Fz : Hp) (ρ : List Addr) : List (PV × PV) → List (NestedKey × Addr × V) → Prop := fun ps vs => (∀ x ∈ vs, x.1.depth ≤ 8) ∧
  PySem.Paired (fun (p : PV × PV) (x : NestedKey × Addr × V) => nkOf p.1 = some x.1 ∧ Rep K mg Fz ρ p.1 (.ref x.2.1) ∧ Rep K mg Fz ρ p.2 x.2.2) ps vs
def DcnOk (Fz : Hp) (ρ : List Addr) (H : Hp) (a : Addr) (kvs : List (PV × PV)) : Prop := ∃ xs, H a = some (NdO a xs) ∧ kvs.length ≤ sizeLine ∧ RepN K mg Fz ρ kvs xs ∧ (xs.map (·.1)).Nodup ∧ (a == sysModules) = false
def CellOk (Fz : Hp) (ρ : List Addr) (H : Hp) (a : Addr) : Cell → Prop
  | .lst xs => ∃ vs, H a = some (.lst vs) ∧ xs.length ≤ sizeLine ∧ RepL K mg Fz ρ xs vs
  | .frz xs => ∃ vs, Fz a = some (.lst vs) ∧ xs.length ≤ sizeLine ∧ RepL K mg Fz ρ xs vs
  | .dct kvs => DctOk K mg Fz ρ H a kvs
  | .dcn kvs => DcnOk K mg Fz ρ H a kvs
  | .dkf kvs => ∃ od kv, Fz a = some (.frz od (.dK kv)) ∧ kvs.length ≤ sizeLine ∧ RepD K mg Fz ρ kvs kv
  | .dnf kvs => ∃ od xs, Fz a = some (.frz od (NdO a xs)) ∧ kvs.length ≤ sizeLine ∧ RepN K mg Fz ρ kvs xs ∧ (xs.map (·.1)).Nodup ∧ (a == sysModules) = false
  | .tpl xs => ∃ od vs, Fz a = some (.frz od (.tup vs)) ∧ od.dict = none ∧ xs.length ≤ sizeLine ∧ RepL K mg Fz ρ xs vs
  | .ins x fs => ∃ C dx vs, mg x = some (.ref C) ∧ H a = some (.ins C dx vs) ∧ fs.length ≤ 900 ∧ RepF K mg Fz ρ fs vs
  | .exc c => ∃ C, mg c = some (.ref C) ∧ H a = some (XcO (.ref C) a)
def Cell.live : Cell → Bool
  | .frz _ => false
  | .dkf _ => false
  | .dnf _ => false
  | .tpl _ => false
  | _ => true
structure Rel (Z Fz : Hp) (ρ : List Addr) (st : Store) (H : Hp) : Prop where
  zf : ∀ a o, Z a = some o → H a = some o ∧ Fz a = none ∧ a ∉ ρ
  fz : ∀ a o, Fz a = some o → H a = some o
  len : ρ.length = st.length
  cell : ∀ (k : Nat) (a : Addr) (x : Cell), ρ[k]? = some a → st[k]? = some x → CellOk K mg Fz ρ H a x
  apart : ∀ (k : Nat) (a : Addr) (x : Cell), ρ[k]? = some a → st[k]? = some x → x.live = true → Fz a = none
  nd : ρ.Nodup
structure Ext (Fz : Hp) (ρ : List Addr) (Fz' : Hp) (ρ' : List Addr) : Prop where
  fz : ∀ a o, Fz a = some o → Fz' a = some o
  pre : ρ <+: ρ'
theorem Ext.refl {Fz : Hp} {ρ : List Addr} : Ext Fz ρ Fz ρ := ⟨fun _ _ h => h, List.prefix_refl _⟩
theorem Ext.trans {F1 F2 F3 : Hp} {r1 r2 r3 : List Addr} (a : Ext F1 r1 F2 r2) (b : Ext F2 r2 F3 r3) : Ext F1 r1 F3 r3 :=
  ⟨fun x o h => b.fz x o (a.fz x o h), a.pre.trans b.pre⟩
theorem Rd.mono {F F' : Hp} (h : ∀ a o, F a = some o → F' a = some o) {a : Addr} {u : HO} (r : Rd F a u) : Rd F' a u := by
  rcases r with r | ⟨o, r⟩
  · exact .inl (h _ _ r)
  · exact .inr ⟨o, h _ _ r⟩
variable {K mg}
theorem sqT_mono {F F' : Hp} (h : ∀ a o, F a = some o → F' a = some o) {a : Addr} {vs : List V} (r : SqT K F a vs) : SqT K F' a vs := by
  rcases r with r | r
  · exact .inl (Rd.mono h r)
  · exact .inr r
theorem sqL_mono {F F' : Hp} (h : ∀ a o, F a = some o → F' a = some o) {a : Addr} {vs : List V} (r : SqL K F a vs) : SqL K F' a vs := by
  rcases r with r | r
  · exact .inl (Rd.mono h r)
  · exact .inr r
theorem prefix_get {α : Type} {l l' : List α} (h : l <+: l') {k : Nat} {a : α} (e : l[k]? = some a) : l'[k]? = some a := by
  obtain ⟨t, rfl⟩ := h
  have hk : k < l.length := (List.getElem?_eq_some_iff.mp e).1
  rw [List.getElem?_append_left hk]; exact e
mutual
theorem Rep.mono {Fz Fz' : Hp} {ρ ρ' : List Addr} (e : Ext Fz ρ Fz' ρ') : ∀ {p : PV} {v : V}, Rep K mg Fz ρ p v → Rep K mg Fz' ρ' p v
  | .non, _, h => by simpa [Rep] using h
  | .bl _, _, h => by simpa [Rep] using h
  | .int _, _, h => by simpa [Rep] using h
  | .str _, _, h => by simpa [Rep] using h
  | .tup xs, _, h => by
    rw [Rep] at h ⊢
    obtain ⟨a, vs, e1, e2, e3, e4⟩ := h
    exact ⟨a, vs, e1, sqT_mono e.fz e2, e3, RepL.mono e e4⟩
  | .lst xs, _, h => by
    rw [Rep] at h ⊢
    obtain ⟨a, vs, e1, e2, e3, e4⟩ := h
    exact ⟨a, vs, e1, e.fz _ _ e2, e3, RepL.mono e e4⟩
  | .scr ns, _, h => by
    rw [Rep] at h ⊢
    obtain ⟨a, e1, e2, e3⟩ := h
    exact ⟨a, e1, sqL_mono e.fz e2, e3⟩
  | .own k, _, h => by
    rw [Rep] at h ⊢
    obtain ⟨a, e1, e2⟩ := h
    exact ⟨a, prefix_get e.pre e1, e2⟩
  | .glo x, _, h => by simpa [Rep] using h
  | .tpn xs, _, h => by
    rw [Rep] at h ⊢
    obtain ⟨a, od, vs, e1, e2, e3, e4, e5⟩ := h
    exact ⟨a, od, vs, e1, e.fz _ _ e2, e3, e4, RepL.mono e e5⟩
theorem RepL.mono {Fz Fz' : Hp} {ρ ρ' : List Addr} (e : Ext Fz ρ Fz' ρ') : ∀ {ps : List PV} {vs : List V}, RepL K mg Fz ρ ps vs → RepL K mg Fz' ρ' ps vs
  | [], _, h => by simpa [RepL] using h
  | x :: xs, _, h => by
    rw [RepL] at h ⊢
    obtain ⟨v, r, e1, e2, e3⟩ := h
    exact ⟨v, r, e1, Rep.mono e e2, RepL.mono e e3⟩
end
theorem REnv.mono {Fz Fz' : Hp} {ρ ρ' : List Addr} (e : Ext Fz ρ Fz' ρ') {env : Ev} {σ : L2.St} (h : REnv K mg Fz ρ env σ) : REnv K mg Fz' ρ' env σ :=
  ⟨h.1, fun i p q => let ⟨v, a, b⟩ := h.2 i p q; ⟨v, a, b.mono e⟩⟩
theorem RepF.mono {Fz Fz' : Hp} {ρ ρ' : List Addr} (e : Ext Fz ρ Fz' ρ') {ps : List (Str × PV)} {vs : List (Str × V)} (h : RepF K mg Fz ρ ps vs) : RepF K mg Fz' ρ' ps vs :=
  L2.Paired.mapP h fun _ _ q => ⟨q.1, q.2.mono e⟩
theorem RepL.len {Fz : Hp} {ρ : List Addr} : ∀ {ps : List PV} {vs : List V}, RepL K mg Fz ρ ps vs → ps.length = vs.length
  | [], _, h => by rw [RepL] at h; subst h; rfl
  | x :: xs, _, h => by
    rw [RepL] at h
    obtain ⟨v, r, rfl, _, h⟩ := h
    simp [RepL.len h]
theorem RepL.get {Fz : Hp} {ρ : List Addr} : ∀ {ps : List PV} {vs : List V} {i : Nat} {p : PV}, RepL K mg Fz ρ ps vs → ps[i]? = some p → ∃ v, vs[i]? = some v ∧ Rep K mg Fz ρ p v
  | [], _, _, _, _, e => by simp at e
  | x :: xs, _, 0, p, h, e => by
    rw [RepL] at h
    obtain ⟨v, r, rfl, h1, _⟩ := h
    simp at e; subst e
    exact ⟨v, rfl, h1⟩
  | x :: xs, _, i + 1, p, h, e => by
    rw [RepL] at h
    obtain ⟨v, r, rfl, _, h⟩ := h
    obtain ⟨v', e1, e2⟩ := RepL.get (i := i) h (by simpa using e)
    exact ⟨v', by simpa using e1, e2⟩
theorem RepL.app {Fz : Hp} {ρ : List Addr} : ∀ {ps qs : List PV} {vs ws : List V}, RepL K mg Fz ρ ps vs → RepL K mg Fz ρ qs ws → RepL K mg Fz ρ (ps ++ qs) (vs ++ ws)
  | [], _, _, _, h, h' => by rw [RepL] at h; subst h; exact h'
  | x :: xs, qs, _, ws, h, h' => by
    rw [RepL] at h
    obtain ⟨v, r, rfl, h1, h⟩ := h
    show RepL K mg Fz ρ (x :: (xs ++ qs)) (v :: (r ++ ws))
    rw [RepL]
    exact ⟨v, _, rfl, h1, RepL.app h h'⟩
theorem RepL.nil {Fz : Hp} {ρ : List Addr} : RepL K mg Fz ρ [] [] := by rw [RepL]
theorem RepL.cons {Fz : Hp} {ρ : List Addr} {p : PV} {v : V} {ps : List PV} {vs : List V} (h : Rep K mg Fz ρ p v) (h' : RepL K mg Fz ρ ps vs) : RepL K mg Fz ρ (p :: ps) (v :: vs) := by
  rw [RepL]; exact ⟨_, _, rfl, h, h'⟩
theorem RepL.drop {Fz : Hp} {ρ : List Addr} : ∀ {ps : List PV} {vs : List V} (n : Nat), RepL K mg Fz ρ ps vs → RepL K mg Fz ρ (ps.drop n) (vs.drop n)
  | _, _, 0, h => h
  | [], _, _ + 1, h => by rw [RepL] at h; subst h; exact RepL.nil
  | x :: xs, _, n + 1, h => by
    rw [RepL] at h
    obtain ⟨v, r, rfl, _, h⟩ := h
    exact RepL.drop n h
theorem RepL.take {Fz : Hp} {ρ : List Addr} : ∀ {ps : List PV} {vs : List V} (n : Nat), RepL K mg Fz ρ ps vs → RepL K mg Fz ρ (ps.take n) (vs.take n)
  | _, _, 0, _ => RepL.nil
  | [], _, _ + 1, h => by rw [RepL] at h; subst h; exact RepL.nil
  | x :: xs, _, n + 1, h => by
    rw [RepL] at h
    obtain ⟨v, r, rfl, h1, h⟩ := h
    exact RepL.cons h1 (RepL.take n h)
theorem RepL.set {Fz : Hp} {ρ : List Addr} {p : PV} {v : V} (hp : Rep K mg Fz ρ p v) : ∀ {ps : List PV} {vs : List V} (n : Nat), RepL K mg Fz ρ ps vs → RepL K mg Fz ρ (ps.set n p) (vs.set n v)
  | [], _, _, h => by rw [RepL] at h; subst h; exact RepL.nil
  | x :: xs, _, 0, h => by
    rw [RepL] at h
    obtain ⟨w, r, rfl, _, h⟩ := h
    exact RepL.cons hp h
  | x :: xs, _, n + 1, h => by
    rw [RepL] at h
    obtain ⟨w, r, rfl, h1, h⟩ := h
    exact RepL.cons h1 (RepL.set hp n h)
theorem RepL.flat {Fz : Hp} {ρ : List Addr} {ps : List PV} {vs : List V} (h : RepL K mg Fz ρ ps vs) : ∀ n : Nat, RepL K mg Fz ρ (List.replicate n ps).flatten (List.replicate n vs).flatten
  | 0 => RepL.nil
  | n + 1 => by
    rw [List.replicate_succ, List.replicate_succ, List.flatten_cons, List.flatten_cons]
    exact RepL.app h (RepL.flat h n)
theorem RepL.ints {Fz : Hp} {ρ : List Addr} : ∀ ns : List Int, RepL K mg Fz ρ (ns.map PV.int) (ns.map V.int)
  | [] => RepL.nil
  | n :: ns => RepL.cons (by rw [Rep]) (RepL.ints ns)
theorem RepL.of_ints {Fz : Hp} {ρ : List Addr} : ∀ {ns : List Int} {vs : List V}, RepL K mg Fz ρ (ns.map PV.int) vs → vs = ns.map V.int
  | [], _, h => by rw [List.map_nil, RepL] at h; exact h
  | n :: ns, _, h => by
    rw [List.map_cons, RepL] at h
    obtain ⟨v, r, rfl, h1, h⟩ := h
    rw [Rep] at h1
    rw [h1, RepL.of_ints h]; rfl
theorem nodup_ix {l : List Addr} (h : l.Nodup) {i j : Nat} {a : Addr} (ei : l[i]? = some a) (ej : l[j]? = some a) : i = j := by
  obtain ⟨hi, qi⟩ := List.getElem?_eq_some_iff.mp ei
  obtain ⟨hj, qj⟩ := List.getElem?_eq_some_iff.mp ej
  have P := List.pairwise_iff_getElem.mp h
  rcases Nat.lt_trichotomy i j with z | z | z
  · exact absurd (qi.trans qj.symm) (P i j hi hj z)
  · exact z
  · exact absurd (qj.trans qi.symm) (P j i hj hi z)
section
variable {Z Fz : Hp} {ρ : List Addr} {st : Store} {H : Hp}
theorem CellOk.mono {Fz' : Hp} {ρ' : List Addr} {H' : Hp} {a : Addr} (e : Ext Fz ρ Fz' ρ') (hH : ∀ o, H a = some o → H' a = some o) : ∀ {c : Cell}, CellOk K mg Fz ρ H a c → CellOk K mg Fz' ρ' H' a c
  | .lst xs, h => let ⟨vs, h1, h2, h3⟩ := h; ⟨vs, hH _ h1, h2, h3.mono e⟩
  | .frz xs, h => let ⟨vs, h1, h2, h3⟩ := h; ⟨vs, e.fz _ _ h1, h2, h3.mono e⟩
  | .dct kvs, h => let ⟨kv, h1, h2, h3⟩ := h; ⟨kv, hH _ h1, h2, L2.Paired.mapP h3 fun _ _ z => ⟨z.1, z.2.mono e⟩⟩
  | .dcn kvs, h => let ⟨kv, h1, h2, h3, h4, h5⟩ := h; ⟨kv, hH _ h1, h2, ⟨h3.1, L2.Paired.mapP h3.2 fun _ _ z => ⟨z.1, z.2.1.mono e, z.2.2.mono e⟩⟩, h4, h5⟩
  | .dkf kvs, h => let ⟨od, kv, h1, h2, h3⟩ := h; ⟨od, kv, e.fz _ _ h1, h2, L2.Paired.mapP h3 fun _ _ z => ⟨z.1, z.2.mono e⟩⟩
  | .dnf kvs, h => let ⟨od, kv, h1, h2, h3, h4, h5⟩ := h; ⟨od, kv, e.fz _ _ h1, h2, ⟨h3.1, L2.Paired.mapP h3.2 fun _ _ z => ⟨z.1, z.2.1.mono e, z.2.2.mono e⟩⟩, h4, h5⟩
  | .tpl xs, h => let ⟨od, vs, h1, h2, h3, h4⟩ := h; ⟨od, vs, e.fz _ _ h1, h2, h3, h4.mono e⟩
  | .ins x fs, h => let ⟨C, dx, vs, h0, h1, h2, h3⟩ := h; ⟨C, dx, vs, h0, hH _ h1, h2, h3.mono e⟩
  | .exc c, h => let ⟨C, h0, h1⟩ := h; ⟨C, h0, hH _ h1⟩
theorem CellOk.some {a : Addr} (hf : ∀ a o, Fz a = some o → H a = some o) : ∀ {c : Cell}, CellOk K mg Fz ρ H a c → ∃ o, H a = some o
  | .lst xs, h => let ⟨vs, h1, _⟩ := h; ⟨_, h1⟩
  | .frz xs, h => let ⟨vs, h1, _⟩ := h; ⟨_, hf _ _ h1⟩
  | .dct kvs, h => let ⟨kv, h1, _⟩ := h; ⟨_, h1⟩
  | .dcn kvs, h => let ⟨kv, h1, _⟩ := h; ⟨_, h1⟩
  | .dkf kvs, h => let ⟨od, kv, h1, _⟩ := h; ⟨_, hf _ _ h1⟩
  | .dnf kvs, h => let ⟨od, kv, h1, _⟩ := h; ⟨_, hf _ _ h1⟩
  | .tpl xs, h => let ⟨od, vs, h1, _⟩ := h; ⟨_, hf _ _ h1⟩
  | .ins x fs, h => let ⟨C, dx, vs, h0, h1, _⟩ := h; ⟨_, h1⟩
  | .exc c, h => let ⟨C, h0, h1⟩ := h; ⟨_, h1⟩
theorem Rel.at (r : Rel K mg Z Fz ρ st H) {k : Nat} {a : Addr} (e : ρ[k]? = some a) : ∃ c, st[k]? = some c ∧ CellOk K mg Fz ρ H a c := by
  have hk : k < st.length := by rw [← r.len]; exact (List.getElem?_eq_some_iff.mp e).1
  exact ⟨st[k], by simp [hk], r.cell k a _ e (by simp [hk])⟩
theorem Rel.free (r : Rel K mg Z Fz ρ st H) {p : Addr} (hp : H p = none) : Fz p = none ∧ p ∉ ρ := by
  refine ⟨?_, fun hm => ?_⟩
  · cases e : Fz p with
    | none => rfl
    | some o => rw [r.fz _ _ e] at hp; cases hp
  · obtain ⟨k, hk, e⟩ := List.getElem_of_mem hm
    have e' : ρ[k]? = some p := by rw [List.getElem?_eq_getElem hk, e]
    obtain ⟨c, _, h⟩ := r.at e'
    obtain ⟨o, q⟩ := h.some r.fz
    rw [q] at hp; cases hp
theorem Rel.frozen (r : Rel K mg Z Fz ρ st H) {p : Addr} (hp : H p = none) (o : HO) : Rel K mg Z (upd Fz p o) ρ st (upd H p o) ∧ Ext Fz ρ (upd Fz p o) ρ := by
  obtain ⟨hf, hm⟩ := r.free hp
  have ex : Ext Fz ρ (upd Fz p o) ρ := ⟨fun a u e => by rw [upd_ne (fun z => by subst z; rw [hf] at e; cases e)]; exact e, List.prefix_refl _⟩
  refine ⟨⟨fun a u e => ?_, fun a u e => ?_, r.len, fun k a x e1 e2 => (r.cell k a x e1 e2).mono ex fun u q => ?_, fun k a x e1 e2 e3 => ?_, r.nd⟩, ex⟩
  · obtain ⟨z1, z2, z3⟩ := r.zf a u e
    have hap : a ≠ p := fun z => by subst z; rw [hp] at z1; cases z1
    exact ⟨by rw [upd_ne hap]; exact z1, by rw [upd_ne hap]; exact z2, z3⟩
  · by_cases h : a = p
    · subst h; rw [upd_same] at e ⊢; exact e
    · rw [upd_ne h] at e ⊢; exact r.fz _ _ e
  · rw [upd_ne (fun z => by subst z; rw [hp] at q; cases q)]; exact q
  · have hap : a ≠ p := fun z => hm (by subst z; exact List.mem_of_getElem? e1)
    rw [upd_ne hap]; exact r.apart k a x e1 e2 e3
theorem Rel.owned (r : Rel K mg Z Fz ρ st H) {p : Addr} (hp : H p = none) {o : HO} {c : Cell} (hl : c.live = true) (hc : CellOk K mg Fz (ρ ++ [p]) (upd H p o) p c) :
    Rel K mg Z Fz (ρ ++ [p]) (st ++ [c]) (upd H p o) ∧ Ext Fz ρ Fz (ρ ++ [p]) := by
  obtain ⟨hf, hm⟩ := r.free hp
  have ex : Ext Fz ρ Fz (ρ ++ [p]) := ⟨fun a u e => e, List.prefix_append _ _⟩
  have split : ∀ (k : Nat) (a : Addr) (x : Cell), (ρ ++ [p])[k]? = some a → (st ++ [c])[k]? = some x → (ρ[k]? = some a ∧ st[k]? = some x) ∨ (a = p ∧ x = c) := fun k a x e1 e2 => by
    by_cases h : k < ρ.length
    · rw [List.getElem?_append_left h] at e1
      rw [List.getElem?_append_left (by rw [← r.len]; exact h)] at e2
      exact .inl ⟨e1, e2⟩
    · have hk : k = ρ.length := by
        have := (List.getElem?_eq_some_iff.mp e1).1
        simp at this; omega
      subst hk
      rw [List.getElem?_append_right (Nat.le_refl _)] at e1
      rw [List.getElem?_append_right (by rw [r.len]; exact Nat.le_refl _), r.len] at e2
      simp at e1 e2
      exact .inr ⟨e1.symm, e2.symm⟩
  refine ⟨⟨fun a u e => ?_, fun a u e => ?_, by simp [r.len], fun k a x e1 e2 => ?_, fun k a x e1 e2 e3 => ?_, ?_⟩, ex⟩
  · obtain ⟨z1, z2, z3⟩ := r.zf a u e
    have hap : a ≠ p := fun z => by subst z; rw [hp] at z1; cases z1
    exact ⟨by rw [upd_ne hap]; exact z1, z2, fun h => by
      rcases List.mem_append.mp h with h | h
      · exact z3 h
      · exact hap (by simpa using h)⟩
  · rw [upd_ne (fun z => by subst z; rw [hf] at e; cases e)]; exact r.fz _ _ e
  · rcases split k a x e1 e2 with ⟨q1, q2⟩ | ⟨rfl, rfl⟩
    · have hap : a ≠ p := fun z => hm (by subst z; exact List.mem_of_getElem? q1)
      exact (r.cell k a x q1 q2).mono ex fun u q => by rw [upd_ne hap]; exact q
    · exact hc
  · rcases split k a x e1 e2 with ⟨q1, q2⟩ | ⟨rfl, rfl⟩
    · exact r.apart k a x q1 q2 e3
    · exact hf
  · rw [List.nodup_append]
    exact ⟨r.nd, by simp, fun a ha b hb => by simp at hb; subst hb; exact fun z => hm (by rw [← z]; exact ha)⟩
theorem Rel.write (r : Rel K mg Z Fz ρ st H) {k : Nat} {a : Addr} {c0 c : Cell} {o : HO} (e : ρ[k]? = some a) (e0 : st[k]? = some c0) (h0 : c0.live = true) (hl : c.live = true) (hc : CellOk K mg Fz ρ (upd H a o) a c) :
    Rel K mg Z Fz ρ (st.set k c) (upd H a o) := by
  have hf := r.apart k a c0 e e0 h0
  have hk : k < st.length := (List.getElem?_eq_some_iff.mp e0).1
  have diff : ∀ (j : Nat) (b : Addr), ρ[j]? = some b → j ≠ k → b ≠ a := fun j b ej hjk z => by
    subst z
    exact hjk (nodup_ix r.nd ej e)
  refine ⟨fun b u q => ?_, fun b u q => ?_, by simp [r.len], fun j b x e1 e2 => ?_, fun j b x e1 e2 e3 => ?_, r.nd⟩
  · obtain ⟨z1, z2, z3⟩ := r.zf b u q
    have hba : b ≠ a := fun z => z3 (by rw [z]; exact List.mem_of_getElem? e)
    exact ⟨by rw [upd_ne hba]; exact z1, z2, z3⟩
  · rw [upd_ne (fun z => by subst z; rw [hf] at q; cases q)]; exact r.fz _ _ q
  · by_cases hj : j = k
    · subst hj
      rw [List.getElem?_set_self hk] at e2
      rw [e] at e1; cases e1; cases e2
      exact hc
    · rw [List.getElem?_set_ne (fun z => hj z.symm)] at e2
      exact (r.cell j b x e1 e2).mono Ext.refl fun u q => by rw [upd_ne (diff j b e1 hj)]; exact q
  · by_cases hj : j = k
    · subst hj
      rw [e] at e1; cases e1
      exact hf
    · rw [List.getElem?_set_ne (fun z => hj z.symm)] at e2
      exact r.apart j b x e1 e2 e3
theorem Rel.freeze (r : Rel K mg Z Fz ρ st H) {k : Nat} {a : Addr} {xs : List PV} (e : ρ[k]? = some a) (e0 : st[k]? = some (.lst xs)) :
    ∃ vs, H a = some (.lst vs) ∧ RepL K mg Fz ρ xs vs ∧ xs.length ≤ sizeLine ∧ Rel K mg Z (upd Fz a (.lst vs)) ρ (st.set k (.frz xs)) H ∧ Ext Fz ρ (upd Fz a (.lst vs)) ρ := by
  obtain ⟨vs, h1, h2, h3⟩ := r.cell k a _ e e0
  have hf := r.apart k a _ e e0 rfl
  have hk : k < st.length := (List.getElem?_eq_some_iff.mp e0).1
  have ex : Ext Fz ρ (upd Fz a (.lst vs)) ρ := ⟨fun b u q => by rw [upd_ne (fun z => by subst z; rw [hf] at q; cases q)]; exact q, List.prefix_refl _⟩
  refine ⟨vs, h1, h3, h2, ⟨fun b u q => ?_, fun b u q => ?_, by simp [r.len], fun j b x e1 e2 => ?_, fun j b x e1 e2 e3 => ?_, r.nd⟩, ex⟩
  · obtain ⟨z1, z2, z3⟩ := r.zf b u q
    have hba : b ≠ a := fun z => z3 (by rw [z]; exact List.mem_of_getElem? e)
    exact ⟨z1, by rw [upd_ne hba]; exact z2, z3⟩
  · by_cases hb : b = a
    · subst hb; rw [upd_same] at q; cases q; exact h1
    · rw [upd_ne hb] at q; exact r.fz _ _ q
  · by_cases hj : j = k
    · subst hj
      rw [List.getElem?_set_self hk] at e2
      rw [e] at e1; cases e1; cases e2
      exact ⟨vs, upd_same, h2, h3.mono ex⟩
    · rw [List.getElem?_set_ne (fun z => hj z.symm)] at e2
      exact (r.cell j b x e1 e2).mono ex fun u q => q
  · by_cases hj : j = k
    · subst hj
      rw [List.getElem?_set_self hk] at e2
      cases e2; cases e3
    · rw [List.getElem?_set_ne (fun z => hj z.symm)] at e2
      have hba : b ≠ a := fun z => by
        subst z
        exact hj (nodup_ix r.nd e1 e)
      rw [upd_ne hba]; exact r.apart j b x e1 e2 e3
end
end
end Lq
end
section
set_option Elab.async false
set_option linter.all false
set_option maxRecDepth 10000
namespace Lq
open PySem PySem.Spec PyProof.Rows L2
section
variable (K : PySem.W.Frag) (mg : Str → Option Value)
def Out {α : Type} (Z : Hp) (E : XK) (Fz : Hp) (ρ : List Addr) (r : R α) (P : α → Store → Hp → List Addr → Hp → Prop) : Prop := match r with
  | .ok a st => ∀ Fz' ρ' H', Ext Fz ρ Fz' ρ' → Rel K mg Z Fz' ρ' st H' → P a st Fz' ρ' H'
  | .ex c st => ∀ Fz' ρ' H', Ext Fz ρ Fz' ρ' → Rel K mg Z Fz' ρ' st H' → ∃ C, mg c = some (.ref C) ∧ E (.ref C) none H'
  | .no => False
end
section
variable {K : PySem.W.Frag} {mg : Str → Option Value} {Z : Hp} {E : XK} {Fz : Hp} {ρ : List Addr}
theorem Out.mono {α : Type} {r : R α} {P P' : α → Store → Hp → List Addr → Hp → Prop} (h : Out K mg Z E Fz ρ r P)
    (f : ∀ a st Fz' ρ' H', r = .ok a st → Ext Fz ρ Fz' ρ' → Rel K mg Z Fz' ρ' st H' → P a st Fz' ρ' H' → P' a st Fz' ρ' H') : Out K mg Z E Fz ρ r P' := by
  cases r with
  | ok a st => exact fun F' r' H' e q => f a st F' r' H' rfl e q (h F' r' H' e q)
  | ex c st => exact h
  | no => exact h
theorem Out.on {α : Type} {r : R α} {P : α → Store → Hp → List Addr → Hp → Prop} {Fz' : Hp} {ρ' : List Addr} (h : Out K mg Z E Fz ρ r P) (e : Ext Fz ρ Fz' ρ') : Out K mg Z E Fz' ρ' r P := by
  cases r with
  | ok a st => exact fun F2 r2 H' e2 q => h F2 r2 H' (e.trans e2) q
  | ex c st => exact fun F2 r2 H' e2 q => h F2 r2 H' (e.trans e2) q
  | no => exact h
theorem Out.seq {α β : Type} {r : R α} {k : α → Store → R β} {P : β → Store → Hp → List Addr → Hp → Prop} (h : Out K mg Z E Fz ρ (r.bind k) P) :
    Out K mg Z E Fz ρ r (fun a st Fz' ρ' H' => Out K mg Z E Fz' ρ' (k a st) P) := by
  cases r with
  | ok a st => exact fun F' r' H' e q => Out.on (K := K) (mg := mg) h e
  | ex c st => exact h
  | no => exact h
theorem Out.here {α : Type} {a : α} {st : Store} {P : α → Store → Hp → List Addr → Hp → Prop} {H : Hp} (h : Out K mg Z E Fz ρ (.ok a st) P) (r : Rel K mg Z Fz ρ st H) : P a st Fz ρ H := h Fz ρ H Ext.refl r
end
section
variable (K : PySem.W.Frag) (mg : Str → Option Value) (E : XK)
def SE (t : TE) (f : XE) : Prop := ∀ Z Fz ρ env st σ H Q, Rel K mg Z Fz ρ st H → REnv K mg Fz ρ env σ →
  Out K mg Z E Fz ρ (f env st) (fun v _ Fz' ρ' H' => ∀ v', Rep K mg Fz' ρ' v v' → Q v' H') → t σ H Q
def STt (t : TT) (f : Ev → Store → R Bool) : Prop := ∀ Z Fz ρ env st σ H Q, Rel K mg Z Fz ρ st H → REnv K mg Fz ρ env σ →
  Out K mg Z E Fz ρ (f env st) (fun b _ _ _ H' => Q b H') → t σ H Q
def SA (t : TA) (f : XL) : Prop := ∀ Z Fz ρ env st σ H Q, Rel K mg Z Fz ρ st H → REnv K mg Fz ρ env σ →
  Out K mg Z E Fz ρ (f env st) (fun vs _ Fz' ρ' H' => ∀ vs', RepL K mg Fz' ρ' vs vs' → Q vs' H') → t σ H Q
def SF (t : TE) (f : XL) : Prop := ∀ Z Fz ρ env st σ H Q, Rel K mg Z Fz ρ st H → REnv K mg Fz ρ env σ →
  Out K mg Z E Fz ρ (f env st) (fun xs _ Fz' ρ' H' => ∀ p vs, H' p = none → xs.length ≤ sizeLine → RepL K mg Fz' ρ' xs vs → Q (.ref p) (upd H' p (.lst vs))) → t σ H Q
def FlP (D : Ends) (fl : Fl) (Fz : Hp) (ρ : List Addr) (H : Hp) : Prop := match fl with
  | .nx e => ∀ σ, REnv K mg Fz ρ e σ → D.nx σ H
  | .bk e => ∀ σ, REnv K mg Fz ρ e σ → D.bk σ H
  | .ct e => ∀ σ, REnv K mg Fz ρ e σ → D.ct σ H
  | .rt v => ∀ v', Rep K mg Fz ρ v v' → D.rt v' H
def SS (t : TS) (f : XS) : Prop := ∀ Z Fz ρ env st σ H D, Rel K mg Z Fz ρ st H → REnv K mg Fz ρ env σ →
  Out K mg Z E Fz ρ (f env st) (fun fl _ Fz' ρ' H' => FlP K mg D fl Fz' ρ' H') → t D σ H
end
def JE (X : Cx) (E : XK) (e : Expr) (f : XE) : Prop := ∃ t, PE X e t ∧ SE X.K X.mg E t f
def JT (X : Cx) (E : XK) (e : Expr) (f : Ev → Store → R Bool) : Prop := ∃ t, PT X e t ∧ STt X.K X.mg E t f
def JW (X : Cx) (E : XK) (e : Expr) (f : Ev → Store → R Bool) : Prop := ∃ t, PW X e t ∧ STt X.K X.mg E t f
def JA (X : Cx) (E : XK) (es : List Expr) (f : XL) : Prop := ∃ t, PA X es t ∧ SA X.K X.mg E t f
def JF (X : Cx) (E : XK) (e : Expr) (f : XL) : Prop := ∃ t, PE X e t ∧ SF X.K X.mg E t f
def JS (X : Cx) (E : XK) (st : Stmt) (f : XS) : Prop := ∃ t, PS X st t ∧ SS X.K X.mg E t f
def JSs (X : Cx) (E : XK) (st : List Stmt) (f : XS) : Prop := ∃ t, PSs X st t ∧ SS X.K X.mg E t f
def JOp (X : Cx) (f : Value → Value → Sem Value) (o : PV → PV → Store → Option PV) : Prop := ∃ r : R2, OpR X f r ∧
  ∀ Z Fz ρ st H x y px py pz Q, Rel X.K X.mg Z Fz ρ st H → Rep X.K X.mg Fz ρ px x → Rep X.K X.mg Fz ρ py y → o px py st = some pz →
    (∀ Fz' ρ' H' v', Ext Fz ρ Fz' ρ' → Rel X.K X.mg Z Fz' ρ' st H' → Rep X.K X.mg Fz' ρ' pz v' → Q v' H') → r x y H Q
def eVar (i : Nat) : XE := fun env st => match env[i]? with
  | some (some v) => .ok v st
  | _ => .no
def eC (v : PV) : XE := fun _ st => .ok v st
def eBin (o : PV → PV → Store → Option PV) (a b : XE) : XE := fun env st => (a env st).bind fun x s1 => (b env s1).bind fun y s2 => match o x y s2 with
  | some z => .ok z s2
  | none => .no
def eUn (o : PV → Option PV) (a : XE) : XE := fun env st => (a env st).bind fun x s1 => match o x with
  | some z => .ok z s1
  | none => .no
def aNil : XL := fun _ st => .ok [] st
def aCons (a : XE) (r : XL) : XL := fun env st => (a env st).bind fun x s1 => (r env s1).bind fun xs s2 => .ok (x :: xs) s2
def eTup (a : XL) : XE := fun env st => (a env st).bind fun xs s1 => if xs.length ≤ sizeLine then .ok (.tup xs) s1 else .no
def fDisp (a : XL) : XL := fun env st => (a env st).bind fun xs s1 => if xs.length ≤ sizeLine then .ok xs s1 else .no
def eFz (a : XL) : XE := fun env st => (a env st).bind fun xs s1 => .ok (.lst xs) s1
def eOw (a : XL) : XE := fun env st => (a env st).bind fun xs s1 => .ok (.own s1.length) (s1 ++ [.lst xs])
section
variable {X : Cx} {E : XK} {a b e : Expr} {es : List Expr} {pos : Pos} {fa fb : XE}
theorem je_var (i : Nat) {x : Str} (hN : X.N[i]? = some x := by rfl) (hv : Vis X.env.scope x := by first | exact .inl rfl | exact .inr (.inl rfl) | exact .inr (.inr rfl)) (hd : (x == ("__debug__" : Str)) = false := by decide) (hcd : (x == ("__classdict__" : Str)) = false := by decide) : JE X E (.Name x pos) (eVar i) := by
  refine ⟨tVar i, pe_var hN hv hd hcd, fun Z Fz ρ env st σ H Q r h o => ?_⟩
  unfold eVar at o
  split at o
  · rename_i v ev
    obtain ⟨v', e1, e2⟩ := h.2 i v ev
    exact ⟨v', e1, o.here r v' e2⟩
  · exact o.elim
theorem je_const {v : PV} {v' : V} (hp : PE X e (tC v')) (hr : ∀ Fz ρ, Rep X.K X.mg Fz ρ v v') : JE X E e (eC v) :=
  ⟨_, hp, fun Z Fz ρ env st σ H Q r h o => o.here r v' (hr Fz ρ)⟩
theorem je_int {i : Int} {j pos} : JE X E (.Constant (.int i) j pos) (eC (.int i)) := je_const pe_int fun _ _ => by rw [Rep]
theorem je_str {x : Str} {j pos} : JE X E (.Constant (.str x) j pos) (eC (.str x)) := je_const pe_str fun _ _ => by rw [Rep]
theorem je_bl {b : Bool} {j pos} : JE X E (.Constant (.bool b) j pos) (eC (.bl b)) := je_const pe_bl fun _ _ => by rw [Rep]
theorem je_non {j pos} : JE X E (.Constant .none j pos) (eC .non) := je_const pe_non fun _ _ => by rw [Rep]
theorem je_bin {op : Operator} {o} (h : JOp X (binaryOp op) o) (ha : JE X E a fa) (hb : JE X E b fb) : JE X E (.BinOp a op b pos) (eBin o fa fb) := by
  obtain ⟨r, hr, sr⟩ := h
  obtain ⟨ta, pa, sa⟩ := ha
  obtain ⟨tb, pb, sb⟩ := hb
  refine ⟨tOp r ta tb, pe_op hr pa pb, fun Z Fz ρ env st σ H Q rl h o => ?_⟩
  refine sa Z Fz ρ env st σ H _ rl h (o.seq.mono fun x s1 F1 r1 H1 _ ex1 rl1 o1 x' rx => ?_)
  refine sb Z F1 r1 env s1 σ H1 _ rl1 (h.mono ex1) (o1.seq.mono fun y s2 F2 r2 H2 _ ex2 rl2 o2 y' ry => ?_)
  split at o2
  · rename_i z ez
    exact sr Z F2 r2 s2 H2 x' y' x y z Q rl2 (rx.mono ex2) ry ez fun F3 r3 H3 v' ex3 rl3 rz => o2 F3 r3 H3 ex3 rl3 v' rz
  · exact o2.elim
theorem sbin {r : R2} {ta tb : TE} {o} (sr : ∀ Z Fz ρ st H x y px py pz Q, Rel X.K X.mg Z Fz ρ st H → Rep X.K X.mg Fz ρ px x → Rep X.K X.mg Fz ρ py y → o px py st = some pz →
    (∀ Fz' ρ' H' v', Ext Fz ρ Fz' ρ' → Rel X.K X.mg Z Fz' ρ' st H' → Rep X.K X.mg Fz' ρ' pz v' → Q v' H') → r x y H Q) (sa : SE X.K X.mg E ta fa) (sb : SE X.K X.mg E tb fb) : SE X.K X.mg E (tOp r ta tb) (eBin o fa fb) := fun Z Fz ρ env st σ H Q rl h o => by
  refine sa Z Fz ρ env st σ H _ rl h (o.seq.mono fun x s1 F1 r1 H1 _ ex1 rl1 o1 x' rx => ?_)
  refine sb Z F1 r1 env s1 σ H1 _ rl1 (h.mono ex1) (o1.seq.mono fun y s2 F2 r2 H2 _ ex2 rl2 o2 y' ry => ?_)
  split at o2
  · rename_i z ez
    exact sr Z F2 r2 s2 H2 x' y' x y z Q rl2 (rx.mono ex2) ry ez fun F3 r3 H3 v' ex3 rl3 rz => o2 F3 r3 H3 ex3 rl3 v' rz
  · exact o2.elim
theorem je_cmp {op : CmpOp} {o} (h : JOp X (compareOp op) o) (ha : JE X E a fa) (hb : JE X E b fb) (hm : behindInMarks op b = false := by rfl) : JE X E (.Compare a [op] [b] pos) (eBin o fa fb) := by
  obtain ⟨r, hr, sr⟩ := h
  obtain ⟨ta, pa, sa⟩ := ha
  obtain ⟨tb, pb, sb⟩ := hb
  exact ⟨tOp r ta tb, pe_cmpR hr pa pb hm, sbin sr sa sb⟩
def toB (r : R PV) : R Bool := r.bind fun v s => match v with
  | .bl b => .ok b s
  | _ => .no
def tE (f : XE) : Ev → Store → R Bool := fun env st => toB (f env st)
def tAndF (a b : Ev → Store → R Bool) : Ev → Store → R Bool := fun env st => (a env st).bind fun c s => if c = true then b env s else .ok false s
def tOrF (a b : Ev → Store → R Bool) : Ev → Store → R Bool := fun env st => (a env st).bind fun c s => if c = true then .ok true s else b env s
def tNotF (a : Ev → Store → R Bool) : Ev → Store → R Bool := fun env st => (a env st).bind fun c s => .ok (!c) s
def eB (t : Ev → Store → R Bool) : XE := fun env st => (t env st).bind fun c s => .ok (.bl c) s
def eIf (c : Ev → Store → R Bool) (a b : XE) : XE := fun env st => (c env st).bind fun k s => if k = true then a env s else b env s
theorem st_tE {t : TE} {f : XE} (h : SE X.K X.mg E t f) : STt X.K X.mg E (fun σ H Q => t σ H fun x H1 => ∃ c, x = .bl c ∧ Q c H1) (tE f) := fun Z Fz ρ env st σ H Q rl hh o => by
  refine h Z Fz ρ env st σ H _ rl hh (o.seq.mono fun x s1 F1 r1 H1 _ ex1 rl1 o1 x' rx => ?_)
  split at o1
  · rw [Rep] at rx; exact ⟨_, rx, o1.here rl1⟩
  · exact o1.elim
theorem jt_cmp {op : CmpOp} {o} (h : JOp X (compareOp op) o) (ha : JE X E a fa) (hb : JE X E b fb) (hm : behindInMarks op b = false := by rfl) : JT X E (.Compare a [op] [b] pos) (tE (eBin o fa fb)) := by
  obtain ⟨r, hr, sr⟩ := h
  obtain ⟨ta, pa, sa⟩ := ha
  obtain ⟨tb, pb, sb⟩ := hb
  exact ⟨_, pt_cmpR hr pa pb hm, st_tE (sbin sr sa sb)⟩
theorem jt_val (h : JE X E e fa) (he : ∀ whole, isTrue e X.env whole = (do let v ← whole; standAt e.pos; holding [v] (truthy v)) := by intro _; rfl) : JT X E e (tE fa) := by
  obtain ⟨t, p, s⟩ := h
  exact ⟨_, pt_val p he, st_tE s⟩
theorem jt_not {f} (h : JT X E a f) : JT X E (.UnaryOp .Not a pos) (tNotF f) := by
  obtain ⟨t, p, s⟩ := h
  exact ⟨_, pt_not p, fun Z Fz ρ env st σ H Q rl hh o => s Z Fz ρ env st σ H _ rl hh (o.seq.mono fun c s1 F1 r1 H1 _ ex1 rl1 o1 => o1.here rl1)⟩
theorem st_and {ta tb : TT} {f g} (ha : STt X.K X.mg E ta f) (hb : STt X.K X.mg E tb g) : STt X.K X.mg E (tAnd ta tb) (tAndF f g) := fun Z Fz ρ env st σ H Q rl hh o => by
  refine ha Z Fz ρ env st σ H _ rl hh (o.seq.mono fun c s1 F1 r1 H1 _ ex1 rl1 o1 => ?_)
  cases c with
  | true => exact hb Z F1 r1 env s1 σ H1 _ rl1 (hh.mono ex1) o1
  | false => exact o1.here rl1
theorem st_or {ta tb : TT} {f g} (ha : STt X.K X.mg E ta f) (hb : STt X.K X.mg E tb g) : STt X.K X.mg E (tOr ta tb) (tOrF f g) := fun Z Fz ρ env st σ H Q rl hh o => by
  refine ha Z Fz ρ env st σ H _ rl hh (o.seq.mono fun c s1 F1 r1 H1 _ ex1 rl1 o1 => ?_)
  cases c with
  | false => exact hb Z F1 r1 env s1 σ H1 _ rl1 (hh.mono ex1) o1
  | true => exact o1.here rl1
theorem jw_and1 {f} (h : JT X E a f) : JW X E (.BoolOp .And [a] pos) f := let ⟨t, p, s⟩ := h; ⟨t, pw_and1 p, s⟩
theorem jw_or1 {f} (h : JT X E a f) : JW X E (.BoolOp .Or [a] pos) f := let ⟨t, p, s⟩ := h; ⟨t, pw_or1 p, s⟩
theorem jw_and {rest : List Expr} {f g} (h : JT X E a f) (h' : JW X E (.BoolOp .And (b :: rest) pos) g) : JW X E (.BoolOp .And (a :: b :: rest) pos) (tAndF f g) := by
  obtain ⟨t, p, s⟩ := h
  obtain ⟨t', p', s'⟩ := h'
  exact ⟨_, pw_and p p', st_and s s'⟩
theorem jw_or {rest : List Expr} {f g} (h : JT X E a f) (h' : JW X E (.BoolOp .Or (b :: rest) pos) g) : JW X E (.BoolOp .Or (a :: b :: rest) pos) (tOrF f g) := by
  obtain ⟨t, p, s⟩ := h
  obtain ⟨t', p', s'⟩ := h'
  exact ⟨_, pw_or p p', st_or s s'⟩
theorem JW.jt {f} (h : JW X E e f) : JT X E e f := let ⟨t, p, s⟩ := h; ⟨t, p.pt, s⟩
theorem je_one {op : BoolOp} {f} (h : JE X E a f) : JE X E (.BoolOp op [a] pos) f := let ⟨t, p, s⟩ := h; ⟨t, pe_one p, s⟩
def eAnd (a b : XE) : XE := fun env st => (a env st).bind fun v s => match v with
  | .bl true => b env s
  | .bl false => .ok (.bl false) s
  | _ => .no
def eOr (a b : XE) : XE := fun env st => (a env st).bind fun v s => match v with
  | .bl true => .ok (.bl true) s
  | .bl false => b env s
  | _ => .no
def eNot (a : XE) : XE := fun env st => (a env st).bind fun v s => match v with
  | .bl b => .ok (.bl (!b)) s
  | _ => .no
theorem je_and {rest : List Expr} (h : JE X E a fa) (h' : JE X E (.BoolOp .And (b :: rest) pos) fb) : JE X E (.BoolOp .And (a :: b :: rest) pos) (eAnd fa fb) := by
  obtain ⟨t, p, s⟩ := h
  obtain ⟨t', p', s'⟩ := h'
  refine ⟨_, pe_and p p', fun Z Fz ρ env st σ H Q rl hh o => ?_⟩
  refine s Z Fz ρ env st σ H _ rl hh (o.seq.mono fun c s1 F1 r1 H1 _ ex1 rl1 o1 x' rx => ?_)
  split at o1
  · rw [Rep] at rx; exact ⟨true, rx, s' Z F1 r1 env s1 σ H1 _ rl1 (hh.mono ex1) o1⟩
  · rw [Rep] at rx; exact ⟨false, rx, o1.here rl1 _ (by rw [Rep])⟩
  · exact o1.elim
theorem je_not (h : JE X E a fa) : JE X E (.UnaryOp .Not a pos) (eNot fa) := by
  obtain ⟨t, p, s⟩ := h
  refine ⟨_, pe_not p, fun Z Fz ρ env st σ H Q rl hh o => ?_⟩
  refine s Z Fz ρ env st σ H _ rl hh (o.seq.mono fun c s1 F1 r1 H1 _ ex1 rl1 o1 x' rx => ?_)
  split at o1
  · rw [Rep] at rx; exact ⟨_, rx, o1.here rl1 _ (by rw [Rep])⟩
  · exact o1.elim
theorem je_ifExp {c : Expr} {fc} (hc : JT X E c fc) (ha : JE X E a fa) (hb : JE X E b fb) : JE X E (.IfExp c a b pos) (eIf fc fa fb) := by
  obtain ⟨t, p, s⟩ := hc
  obtain ⟨ta, pa, sa⟩ := ha
  obtain ⟨tb, pb, sb⟩ := hb
  refine ⟨_, pe_ifExp p pa pb, fun Z Fz ρ env st σ H Q rl hh o => ?_⟩
  refine s Z Fz ρ env st σ H _ rl hh (o.seq.mono fun c s1 F1 r1 H1 _ ex1 rl1 o1 => ?_)
  cases c with
  | true => exact sa Z F1 r1 env s1 σ H1 _ rl1 (hh.mono ex1) o1
  | false => exact sb Z F1 r1 env s1 σ H1 _ rl1 (hh.mono ex1) o1
def eChain (o o' : PV → PV → Store → Option PV) (a b c : XE) : XE := fun env st => (a env st).bind fun x s1 => (b env s1).bind fun y s2 => match o x y s2 with
  | some (.bl true) => (c env s2).bind fun z s3 => (match o' y z s3 with
    | some w => .ok w s3
    | none => .no)
  | some (.bl false) => .ok (.bl false) s2
  | _ => .no
theorem schain {r r' : R2} {ta tb tc : TE} {fc : XE} {o o'} (sr : ∀ Z Fz ρ st H x y px py pz Q, Rel X.K X.mg Z Fz ρ st H → Rep X.K X.mg Fz ρ px x → Rep X.K X.mg Fz ρ py y → o px py st = some pz →
    (∀ Fz' ρ' H' v', Ext Fz ρ Fz' ρ' → Rel X.K X.mg Z Fz' ρ' st H' → Rep X.K X.mg Fz' ρ' pz v' → Q v' H') → r x y H Q)
    (sr' : ∀ Z Fz ρ st H x y px py pz Q, Rel X.K X.mg Z Fz ρ st H → Rep X.K X.mg Fz ρ px x → Rep X.K X.mg Fz ρ py y → o' px py st = some pz →
    (∀ Fz' ρ' H' v', Ext Fz ρ Fz' ρ' → Rel X.K X.mg Z Fz' ρ' st H' → Rep X.K X.mg Fz' ρ' pz v' → Q v' H') → r' x y H Q)
    (sa : SE X.K X.mg E ta fa) (sb : SE X.K X.mg E tb fb) (sc : SE X.K X.mg E tc fc) : SE X.K X.mg E (tChain r r' ta tb tc) (eChain o o' fa fb fc) := fun Z Fz ρ env st σ H Q rl h o => by
  refine sa Z Fz ρ env st σ H _ rl h (o.seq.mono fun x s1 F1 r1 H1 _ ex1 rl1 o1 x' rx => ?_)
  refine sb Z F1 r1 env s1 σ H1 _ rl1 (h.mono ex1) (o1.seq.mono fun y s2 F2 r2 H2 _ ex2 rl2 o2 y' ry => ?_)
  split at o2
  · rename_i ez
    refine sr Z F2 r2 s2 H2 x' y' x y _ _ rl2 (rx.mono ex2) ry ez fun F3 r3 H3 v' ex3 rl3 rz => ?_
    rw [Rep] at rz
    refine ⟨true, rz, ?_⟩
    rw [if_pos rfl]
    refine sc Z F3 r3 env s2 σ H3 _ rl3 ((h.mono ex1).mono (ex2.trans ex3)) ((o2.seq.on ex3).mono fun z s3 F4 r4 H4 _ ex4 rl4 o3 z' rz' => ?_)
    split at o3
    · rename_i w ew
      exact sr' Z F4 r4 s3 H4 y' z' y z w Q rl4 (ry.mono (ex3.trans ex4)) rz' ew fun F5 r5 H5 v'' ex5 rl5 rw' => o3 F5 r5 H5 ex5 rl5 v'' rw'
    · exact o3.elim
  · rename_i ez
    refine sr Z F2 r2 s2 H2 x' y' x y _ _ rl2 (rx.mono ex2) ry ez fun F3 r3 H3 v' ex3 rl3 rz => ?_
    rw [Rep] at rz
    refine ⟨false, rz, ?_⟩
    rw [if_neg Bool.false_ne_true]
    exact o2 F3 r3 H3 ex3 rl3 _ (by rw [Rep])
  · exact o2.elim
theorem je_chain {op op' : CmpOp} {o o'} {c : Expr} {fc : XE} (h : JOp X (compareOp op) o) (h' : JOp X (compareOp op') o') (ha : JE X E a fa) (hb : JE X E b fb) (hc : JE X E c fc) (hm : lastMarks [op, op'] [b, c] = false := by first | rfl | with_unfolding_all rfl) :
    JE X E (.Compare a [op, op'] [b, c] pos) (eChain o o' fa fb fc) := by
  obtain ⟨r, hr, sr⟩ := h
  obtain ⟨r', hr', sr'⟩ := h'
  obtain ⟨ta, pa, sa⟩ := ha
  obtain ⟨tb, pb, sb⟩ := hb
  obtain ⟨tc, pc, sc⟩ := hc
  exact ⟨tChain r r' ta tb tc, pe_chain hr hr' pa pb pc (hm := hm), schain sr sr' sa sb sc⟩
theorem jt_chain {op op' : CmpOp} {o o'} {c : Expr} {fc : XE} (h : JOp X (compareOp op) o) (h' : JOp X (compareOp op') o') (ha : JE X E a fa) (hb : JE X E b fb) (hc : JE X E c fc) (hm : lastMarks [op, op'] [b, c] = false := by first | rfl | with_unfolding_all rfl) :
    JT X E (.Compare a [op, op'] [b, c] pos) (tE (eChain o o' fa fb fc)) := by
  obtain ⟨r, hr, sr⟩ := h
  obtain ⟨r', hr', sr'⟩ := h'
  obtain ⟨ta, pa, sa⟩ := ha
  obtain ⟨tb, pb, sb⟩ := hb
  obtain ⟨tc, pc, sc⟩ := hc
  exact ⟨_, pt_chain hr hr' pa pb pc (hm := hm), st_tE (schain sr sr' sa sb sc)⟩
theorem ja_nil : JA X E [] aNil := ⟨_, pa_nil, fun Z Fz ρ env st σ H Q rl hh o => o.here rl _ RepL.nil⟩
theorem ja_cons {fr : XL} (h : JE X E e fa) (h' : JA X E es fr) (hs : starEach (e :: es) X.env = (false, eval e X.env) :: starEach es X.env := by rfl) : JA X E (e :: es) (aCons fa fr) := by
  obtain ⟨t, p, s⟩ := h
  obtain ⟨t', p', s'⟩ := h'
  refine ⟨_, pa_cons p p' hs, fun Z Fz ρ env st σ H Q rl hh o => ?_⟩
  refine s Z Fz ρ env st σ H _ rl hh (o.seq.mono fun x s1 F1 r1 H1 _ ex1 rl1 o1 x' rx => ?_)
  refine s' Z F1 r1 env s1 σ H1 _ rl1 (hh.mono ex1) (o1.seq.mono fun xs s2 F2 r2 H2 _ ex2 rl2 o2 xs' rxs => ?_)
  exact o2.here rl2 _ (RepL.cons (rx.mono ex2) rxs)
theorem je_tup {f : XL} {x1} (h : JA X E es f) : JE X E (.Tuple es x1 pos) (eTup f) := by
  obtain ⟨t, p, s⟩ := h
  refine ⟨_, pe_tup p, fun Z Fz ρ env st σ H Q rl hh o => ?_⟩
  refine s Z Fz ρ env st σ H _ rl hh (o.seq.mono fun xs s1 F1 r1 H1 _ ex1 rl1 o1 xs' rx => ?_)
  split at o1
  · rename_i hl
    refine ⟨by rw [← rx.len]; exact hl, fun p hp => ?_⟩
    obtain ⟨rl2, ex2⟩ := rl1.frozen hp (.tup xs')
    exact o1 _ _ _ ex2 rl2 _ (by rw [Rep]; exact ⟨p, xs', rfl, SqT.of upd_same, hl, rx.mono ex2⟩)
  · exact o1.elim
theorem jf_lst {f : XL} (h : JA X E es f) : JF X E (.List es pos) (fDisp f) := by
  obtain ⟨t, p, s⟩ := h
  refine ⟨_, pe_lst p, fun Z Fz ρ env st σ H Q rl hh o => ?_⟩
  refine s Z Fz ρ env st σ H _ rl hh (o.seq.mono fun xs s1 F1 r1 H1 _ ex1 rl1 o1 xs' rx => ?_)
  split at o1
  · rename_i hl
    exact ⟨by rw [← rx.len]; exact hl, fun p hp => o1.here rl1 p xs' hp hl rx⟩
  · exact o1.elim
theorem je_fz {f : XL} (h : JF X E e f) : JE X E e (eFz f) := by
  obtain ⟨t, p, s⟩ := h
  refine ⟨t, p, fun Z Fz ρ env st σ H Q rl hh o => s Z Fz ρ env st σ H Q rl hh (o.seq.mono fun xs s1 F1 r1 H1 _ ex1 rl1 o1 p vs hp hl rv => ?_)⟩
  obtain ⟨rl2, ex2⟩ := rl1.frozen hp (.lst vs)
  exact o1 _ _ _ ex2 rl2 _ (by rw [Rep]; exact ⟨p, vs, rfl, upd_same, hl, rv.mono ex2⟩)
theorem je_ow {f : XL} (h : JF X E e f) : JE X E e (eOw f) := by
  obtain ⟨t, p, s⟩ := h
  refine ⟨t, p, fun Z Fz ρ env st σ H Q rl hh o => s Z Fz ρ env st σ H Q rl hh (o.seq.mono fun xs s1 F1 r1 H1 _ ex1 rl1 o1 p vs hp hl rv => ?_)⟩
  have ex0 : Ext F1 r1 F1 (r1 ++ [p]) := ⟨fun _ _ h => h, List.prefix_append _ _⟩
  obtain ⟨rl2, ex2⟩ := rl1.owned hp (o := .lst vs) (c := .lst xs) rfl ⟨vs, upd_same, hl, rv.mono ex0⟩
  exact o1 _ _ _ ex2 rl2 _ (by rw [Rep]; exact ⟨p, by rw [← rl1.len]; simp, rfl⟩)
end
end Lq
end
section
set_option Elab.async false
set_option linter.all false
set_option maxRecDepth 10000
namespace Lq
open PySem PySem.Spec PyProof.Rows L2
def asL (st : Store) : PV → Option (List PV)
  | .lst xs => some xs
  | .scr ns => some (ns.map PV.int)
  | .own k => (match st[k]? with
    | some (.lst xs) => some xs
    | some (.frz xs) => some xs
    | _ => none)
  | _ => none
def asM (st : Store) : PV → Option (List PV)
  | .lst xs => some xs
  | .own k => (match st[k]? with
    | some (.lst xs) => some xs
    | some (.frz xs) => some xs
    | _ => none)
  | _ => none
section
variable {K : PySem.W.Frag} {mg : Str → Option Value} {Z Fz : Hp} {ρ : List Addr} {st : Store} {H : Hp} {p : PV} {v : V} {xs : List PV}
theorem asM_ok (r : Rel K mg Z Fz ρ st H) (h : Rep K mg Fz ρ p v) (e : asM st p = some xs) : ∃ a vs, v = .ref a ∧ H a = some (.lst vs) ∧ xs.length ≤ sizeLine ∧ RepL K mg Fz ρ xs vs := by
  unfold asM at e
  split at e
  · cases e
    rw [Rep] at h
    obtain ⟨a, vs, h1, h2, h3, h4⟩ := h
    exact ⟨a, vs, h1, r.fz _ _ h2, h3, h4⟩
  · rename_i k
    rw [Rep] at h
    obtain ⟨a, h1, h2⟩ := h
    split at e
    · rename_i ys ek
      cases e
      obtain ⟨vs, q1, q2, q3⟩ := r.cell k a _ h1 ek
      exact ⟨a, vs, h2, q1, q2, q3⟩
    · rename_i ys ek
      cases e
      obtain ⟨vs, q1, q2, q3⟩ := r.cell k a _ h1 ek
      exact ⟨a, vs, h2, r.fz _ _ q1, q2, q3⟩
    · cases e
  · cases e
theorem asL_ok (r : Rel K mg Z Fz ρ st H) (h : Rep K mg Fz ρ p v) (e : asL st p = some xs) : ∃ a vs, v = .ref a ∧ SqL K H a vs ∧ xs.length ≤ sizeLine ∧ RepL K mg Fz ρ xs vs := by
  cases p with
  | scr ns =>
    cases e
    rw [Rep] at h
    obtain ⟨a, h1, h2, h3⟩ := h
    exact ⟨a, _, h1, sqL_mono r.fz h2, by simpa using h3, RepL.ints ns⟩
  | lst ys =>
    obtain ⟨a, vs, h1, h2, h3, h4⟩ := asM_ok r h (show asM st (.lst ys) = some xs from e)
    exact ⟨a, vs, h1, SqL.of h2, h3, h4⟩
  | own k =>
    obtain ⟨a, vs, h1, h2, h3, h4⟩ := asM_ok r h (show asM st (.own k) = some xs from e)
    exact ⟨a, vs, h1, SqL.of h2, h3, h4⟩
  | _ => cases e
theorem tup_ok (r : Rel K mg Z Fz ρ st H) (h : Rep K mg Fz ρ (.tup xs) v) : ∃ a vs, v = .ref a ∧ SqT K H a vs ∧ xs.length ≤ sizeLine ∧ RepL K mg Fz ρ xs vs := by
  rw [Rep] at h
  obtain ⟨a, vs, h1, h2, h3, h4⟩ := h
  exact ⟨a, vs, h1, sqT_mono r.fz h2, h3, h4⟩
end
def oOr (o o' : PV → PV → Store → Option PV) : PV → PV → Store → Option PV := fun x y st => match o x y st with
  | some z => some z
  | none => o' x y st
section
variable {X : Cx}
theorem JOp.or {f o o'} (h : JOp X f o) (h' : JOp X f o') : JOp X f (oOr o o') := by
  obtain ⟨r, hr, sr⟩ := h
  obtain ⟨r', hr', sr'⟩ := h'
  refine ⟨_, hr.or hr', fun Z Fz ρ st H x y px py pz Q rl rx ry e q => ?_⟩
  unfold oOr at e
  split at e
  · rename_i z ez
    cases e
    exact .inl (sr Z Fz ρ st H x y px py _ Q rl rx ry ez q)
  · exact .inr (sr' Z Fz ρ st H x y px py _ Q rl rx ry e q)
def oI (g : Int → Int → Option PV) : PV → PV → Store → Option PV
  | .int i, .int j, _ => g i j
  | _, _, _ => none
theorem jo_I {f : Value → Value → Sem Value} {C : Int → Int → Prop} {g : Int → Int → V} {g' : Int → Int → Option PV} (h : OpR X f (rI C g))
    (hg : ∀ i j z, g' i j = some z → C i j ∧ ∀ Fz ρ, Rep X.K X.mg Fz ρ z (g i j)) : JOp X f (oI g') := by
  refine ⟨_, h, fun Z Fz ρ st H x y px py pz Q rl rx ry e q => ?_⟩
  unfold oI at e
  split at e
  · rename_i i j
    rw [Rep] at rx ry
    obtain ⟨c, rz⟩ := hg i j pz e
    exact ⟨i, j, rx, ry, c, q Fz ρ H _ Ext.refl rl (rz Fz ρ)⟩
  · cases e
theorem jo_I0 {f : Value → Value → Sem Value} {g : Int → Int → V} {g' : Int → Int → PV} (h : OpR X f (rI0 g))
    (hg : ∀ i j, ∀ Fz ρ, Rep X.K X.mg Fz ρ (g' i j) (g i j)) : JOp X f (oI fun i j => some (g' i j)) := by
  refine ⟨_, h, fun Z Fz ρ st H x y px py pz Q rl rx ry e q => ?_⟩
  unfold oI at e
  split at e
  · rename_i i j
    cases e
    rw [Rep] at rx ry
    exact ⟨i, j, rx, ry, q Fz ρ H _ Ext.refl rl (hg i j Fz ρ)⟩
  · cases e
def oAddI := oI fun i j => some (.int (i + j))
def oSub := oI fun i j => some (.int (i - j))
def mulOk (i j : Int) : Bool := (decide (-(2 ^ 64) < i) && decide (i < 2 ^ 64)) || ((decide (-(2 ^ 64) < j) && decide (j < 2 ^ 64)) || decide (i.natAbs.log2 + j.natAbs.log2 < 1000000))
def oMulI := oI fun i j => if mulOk i j = true then some (.int (i * j)) else none
def oDiv := oI fun i j => if 0 < j ∧ j.natAbs.log2 < 9000 then some (.int (i / j)) else none
def oMod := oI fun i j => if 0 < j then some (.int (i % j)) else none
def oPow := oI fun i j => if 0 ≤ j ∧ j ≤ 1000000 ∧ i.natAbs < 2 ^ 64 then some (.int (i ^ j.toNat)) else none
def oLtI := oI fun i j => some (.bl (decide (i < j)))
def oLeI := oI fun i j => some (.bl (decide (i ≤ j)))
def oGtI := oI fun i j => some (.bl (decide (j < i)))
def oGeI := oI fun i j => some (.bl (decide (j ≤ i)))
theorem jo_addI : JOp X (binaryOp .Add) oAddI := jo_I0 op_add fun _ _ _ _ => by rw [Rep]
theorem jo_sub : JOp X (binaryOp .Sub) oSub := jo_I0 op_sub fun _ _ _ _ => by rw [Rep]
theorem mulOk_or : OpR X (binaryOp .Mult) (rI (fun i j => mulOk i j = true) fun i j => .int (i * j)) := fun pins s σ H x y v u Q I rx ry h => by
  obtain ⟨i, j, rfl, rfl, c, q⟩ := h
  unfold mulOk at c
  simp only [Bool.or_eq_true, Bool.and_eq_true, decide_eq_true_eq] at c
  rcases c with c | c | c
  · exact op_mul pins s σ H _ _ v u Q I rx ry ⟨i, j, rfl, rfl, .inl c, q⟩
  · exact op_mul pins s σ H _ _ v u Q I rx ry ⟨i, j, rfl, rfl, .inr c, q⟩
  · exact op_mulW pins s σ H _ _ v u Q I rx ry ⟨i, j, rfl, rfl, c, q⟩
theorem jo_mulI : JOp X (binaryOp .Mult) oMulI := jo_I mulOk_or fun i j z e => by
  split at e
  · rename_i c; cases e; exact ⟨c, fun _ _ => by rw [Rep]⟩
  · cases e
theorem jo_div : JOp X (binaryOp .FloorDiv) oDiv := jo_I op_fdivW fun i j z e => by
  split at e
  · rename_i c; cases e; exact ⟨c, fun _ _ => by rw [Rep]⟩
  · cases e
theorem jo_mod : JOp X (binaryOp .Mod) oMod := jo_I op_mod fun i j z e => by
  split at e
  · rename_i c; cases e; exact ⟨c, fun _ _ => by rw [Rep]⟩
  · cases e
theorem jo_pow : JOp X (binaryOp .Pow) oPow := jo_I op_pow fun i j z e => by
  split at e
  · rename_i c; cases e; exact ⟨c, fun _ _ => by rw [Rep]⟩
  · cases e
theorem jo_ltI : JOp X (compareOp .Lt) oLtI := jo_I0 op_lt fun _ _ _ _ => by rw [Rep]
theorem jo_leI : JOp X (compareOp .LtE) oLeI := jo_I0 op_le fun _ _ _ _ => by rw [Rep]
theorem jo_gtI : JOp X (compareOp .Gt) oGtI := jo_I0 op_gt fun _ _ _ _ => by rw [Rep]
theorem jo_geI : JOp X (compareOp .GtE) oGeI := jo_I0 op_ge fun _ _ _ _ => by rw [Rep]
def oAddS : PV → PV → Store → Option PV
  | .str a, .str b, _ => if a.length + b.length ≤ sizeLine then some (.str (a ++ b)) else none
  | _, _, _ => none
theorem jo_addS : JOp X (binaryOp .Add) oAddS := by
  refine ⟨_, op_add_str, fun Z Fz ρ st H x y px py pz Q rl rx ry e q => ?_⟩
  unfold oAddS at e
  split at e
  · split at e
    · rename_i c
      cases e
      rw [Rep] at rx ry
      exact ⟨_, _, rx, ry, c, q Fz ρ H _ Ext.refl rl (by rw [Rep])⟩
    · cases e
  · cases e
def oAddT : PV → PV → Store → Option PV
  | .tup xs, .tup ys, _ => if xs.length + ys.length ≤ sizeLine then some (.tup (xs ++ ys)) else none
  | _, _, _ => none
theorem jo_addT : JOp X (binaryOp .Add) oAddT := by
  refine ⟨_, op_catA, fun Z Fz ρ st H x y px py pz Q rl rx ry e q => ?_⟩
  unfold oAddT at e
  split at e
  · rename_i xs ys
    split at e
    · rename_i c
      cases e
      obtain ⟨a, vs, rfl, sa, la, ra⟩ := tup_ok rl rx
      obtain ⟨b, ws, rfl, sb, lb, rb⟩ := tup_ok rl ry
      refine ⟨a, b, vs, ws, rfl, rfl, sa, sb, by rw [← ra.len, ← rb.len]; exact c, fun z => ?_, fun z1 z2 => ?_, fun z1 z2 p hp => ?_⟩
      · have : xs = [] := List.length_eq_zero_iff.mp (by rw [ra.len, z]; rfl)
        subst this
        exact q Fz ρ H _ Ext.refl rl ry
      · have : ys = [] := List.length_eq_zero_iff.mp (by rw [rb.len, z2]; rfl)
        subst this
        rw [List.append_nil] at q
        exact q Fz ρ H _ Ext.refl rl rx
      · obtain ⟨rl2, ex2⟩ := rl.frozen hp (.tup (vs ++ ws))
        exact q _ _ _ _ ex2 rl2 (by rw [Rep]; exact ⟨p, _, rfl, SqT.of upd_same, by simpa using c, (ra.app rb).mono ex2⟩)
    · cases e
  · cases e
def oAddL : PV → PV → Store → Option PV := fun x y st => match asM st x, asM st y with
  | some xs, some ys => if xs.length + ys.length ≤ sizeLine then some (.lst (xs ++ ys)) else none
  | _, _ => none
theorem jo_addL : JOp X (binaryOp .Add) oAddL := by
  refine ⟨_, op_cat, fun Z Fz ρ st H x y px py pz Q rl rx ry e q => ?_⟩
  unfold oAddL at e
  split at e
  · rename_i xs ys ex ey
    split at e
    · rename_i c
      cases e
      obtain ⟨a, vs, rfl, sa, la, ra⟩ := asM_ok rl rx ex
      obtain ⟨b, ws, rfl, sb, lb, rb⟩ := asM_ok rl ry ey
      refine ⟨a, b, vs, ws, rfl, rfl, sa, sb, by rw [← ra.len, ← rb.len]; exact c, fun p hp => ?_⟩
      obtain ⟨rl2, ex2⟩ := rl.frozen hp (.lst (vs ++ ws))
      exact q _ _ _ _ ex2 rl2 (by rw [Rep]; exact ⟨p, _, rfl, upd_same, by simpa using c, (ra.app rb).mono ex2⟩)
    · cases e
  · cases e
def oAdd := oOr oAddI (oOr oAddT (oOr oAddS oAddL))
theorem jo_add : JOp X (binaryOp .Add) oAdd := jo_addI.or (jo_addT.or (jo_addS.or jo_addL))
def oMulL : PV → PV → Store → Option PV := fun x y st => match asM st x, y with
  | some xs, .int k => if -(2 ^ 63) ≤ k ∧ k < 2 ^ 63 ∧ xs.length * k.toNat ≤ sizeLine then some (.lst (List.replicate k.toNat xs).flatten) else none
  | _, _ => none
theorem flat_len {α : Type} (xs : List α) : ∀ n : Nat, (List.replicate n xs).flatten.length = xs.length * n
  | 0 => by simp
  | n + 1 => by rw [List.replicate_succ, List.flatten_cons, List.length_append, flat_len xs n, Nat.mul_succ]; omega
theorem jo_mulL : JOp X (binaryOp .Mult) oMulL := by
  refine ⟨_, op_rep, fun Z Fz ρ st H x y px py pz Q rl rx ry e q => ?_⟩
  unfold oMulL at e
  split at e
  · rename_i xs k ex
    split at e
    · rename_i c
      cases e
      obtain ⟨a, vs, rfl, sa, la, ra⟩ := asM_ok rl rx ex
      rw [Rep] at ry
      refine ⟨a, k, vs, rfl, ry, sa, c.1, c.2.1, by rw [← ra.len]; exact c.2.2, fun p hp => ?_⟩
      obtain ⟨rl2, ex2⟩ := rl.frozen hp (.lst (List.replicate k.toNat vs).flatten)
      exact q _ _ _ _ ex2 rl2 (by rw [Rep]; exact ⟨p, _, rfl, upd_same, by rw [flat_len]; exact c.2.2, (ra.flat _).mono ex2⟩)
    · cases e
  · cases e
def oMulT : PV → PV → Store → Option PV
  | .tup xs, .int k, _ => if xs ≠ [] ∧ 2 ≤ k ∧ k ≤ 1000 ∧ xs.length ≤ 1000 then some (.tup (List.replicate k.toNat xs).flatten) else none
  | _, _, _ => none
theorem jo_mulT : JOp X (binaryOp .Mult) oMulT := by
  refine ⟨_, op_repT, fun Z Fz ρ st H x y px py pz Q rl rx ry e q => ?_⟩
  unfold oMulT at e
  split at e
  · rename_i xs k
    split at e
    · rename_i c
      cases e
      obtain ⟨a, vs, rfl, sa, la, ra⟩ := tup_ok rl rx
      rw [Rep] at ry
      refine ⟨a, k, vs, rfl, ry, sa, fun z => c.1 (List.length_eq_zero_iff.mp (by rw [ra.len, z]; rfl)), c.2.1, c.2.2.1, by rw [← ra.len]; exact c.2.2.2, fun p hp => ?_⟩
      obtain ⟨rl2, ex2⟩ := rl.frozen hp (.tup (List.replicate k.toNat vs).flatten)
      have hl : (List.replicate k.toNat xs).flatten.length ≤ sizeLine := by
        rw [flat_len]
        have h1 : k.toNat ≤ 1000 := by omega
        have h2 : xs.length * k.toNat ≤ 1000 * 1000 := Nat.mul_le_mul c.2.2.2 h1
        exact Nat.le_trans h2 (by decide)
      exact q _ _ _ _ ex2 rl2 (by rw [Rep]; exact ⟨p, _, rfl, SqT.of upd_same, hl, (ra.flat _).mono ex2⟩)
    · cases e
  · cases e
def oMul := oOr oMulI (oOr oMulT oMulL)
theorem jo_mul : JOp X (binaryOp .Mult) oMul := jo_mulI.or (jo_mulT.or jo_mulL)
mutual
def toD : PV → PyData
  | .non => .none
  | .bl b => .bool b
  | .int i => .int i
  | .str x => .str x
  | .tup xs => .tuple (toDs xs)
  | .lst xs => .list (toDs xs)
  | .scr ns => .list (ns.map PyData.int)
  | .own _ => .none
  | .glo _ => .none
  | .tpn _ => .none
def toDs : List PV → List PyData
  | [] => []
  | x :: xs => toD x :: toDs xs
end
mutual
/-- plain data, at most so deep -/
def dOk : Nat → PV → Bool
  | _, .non => true
  | _, .bl _ => true
  | _, .int _ => true
  | _, .str x => PyData.strOk x
  | 0, .tup _ => false
  | n + 1, .tup xs => dOks n xs
  | 0, .lst _ => false
  | n + 1, .lst xs => dOks n xs
  | 0, .scr _ => false
  | _ + 1, .scr _ => true
  | _, .own _ => false
  | _, .glo _ => false
  | _, .tpn _ => false
def dOks : Nat → List PV → Bool
  | _, [] => true
  | n, x :: xs => dOk n x && dOks n xs
end
mutual
/-- == -/
def peq : PV → PV → Bool
  | .non, .non => true
  | .bl a, .bl b => a == b
  | .bl a, .int j => (if a then 1 else 0) == j
  | .int i, .bl b => i == (if b then 1 else 0)
  | .int i, .int j => i == j
  | .str x, .str y => x == y
  | .tup xs, .tup ys => peqs xs ys
  | .lst xs, .lst ys => peqs xs ys
  | _, _ => false
def peqs : List PV → List PV → Bool
  | [], [] => true
  | x :: xs, y :: ys => peq x y && peqs xs ys
  | _, _ => false
end
mutual
theorem lay_toD : ∀ (n : Nat) (p : PV), dOk n p = true → (toD p).canLay0 = true ∧ (toD p).depth ≤ n
  | n, .non, h => ⟨rfl, Nat.zero_le _⟩
  | n, .bl _, h => ⟨rfl, Nat.zero_le _⟩
  | n, .int _, h => ⟨rfl, Nat.zero_le _⟩
  | n, .str x, h => by
    refine ⟨?_, Nat.zero_le _⟩
    unfold toD PyData.canLay0
    simpa [dOk] using h
  | 0, .tup _, h => by simp [dOk] at h
  | n + 1, .tup xs, h => by
    rw [dOk] at h
    obtain ⟨a, b⟩ := lay_toDs n xs h
    exact ⟨by unfold toD PyData.canLay0; exact a, by unfold toD PyData.depth; omega⟩
  | 0, .lst _, h => by simp [dOk] at h
  | n + 1, .lst xs, h => by
    rw [dOk] at h
    obtain ⟨a, b⟩ := lay_toDs n xs h
    exact ⟨by unfold toD PyData.canLay0; exact a, by unfold toD PyData.depth; omega⟩
  | 0, .scr _, h => by simp [dOk] at h
  | n + 1, .scr ns, h => by
    have : ∀ ns : List Int, PyData.canLayAll0 (ns.map PyData.int) = true ∧ PyData.depthAll (ns.map PyData.int) = 0 := fun ns => by
      induction ns with
      | nil => exact ⟨rfl, rfl⟩
      | cons a r ih =>
        refine ⟨?_, ?_⟩
        · rw [List.map_cons, PyData.canLayAll0, ih.1]; rfl
        · rw [List.map_cons, PyData.depthAll, ih.2]; rfl
    obtain ⟨a, b⟩ := this ns
    exact ⟨by unfold toD PyData.canLay0; exact a, by unfold toD PyData.depth; omega⟩
  | n, .own _, h => by cases n <;> simp [dOk] at h
  | n, .glo _, h => by cases n <;> simp [dOk] at h
  | n, .tpn _, h => by cases n <;> simp [dOk] at h
theorem lay_toDs : ∀ (n : Nat) (ps : List PV), dOks n ps = true → PyData.canLayAll0 (toDs ps) = true ∧ PyData.depthAll (toDs ps) ≤ n
  | n, [], h => ⟨rfl, Nat.zero_le _⟩
  | n, x :: xs, h => by
    rw [dOks, Bool.and_eq_true] at h
    obtain ⟨a, b⟩ := lay_toD n x h.1
    obtain ⟨c, d⟩ := lay_toDs n xs h.2
    exact ⟨by unfold toDs PyData.canLayAll0; rw [a, c]; rfl, by unfold toDs PyData.depthAll; omega⟩
end
mutual
def noScr : PV → Bool
  | .tup xs => noScrs xs
  | .lst xs => noScrs xs
  | .scr _ => false
  | .own _ => false
  | .glo _ => false
  | .tpn _ => false
  | _ => true
def noScrs : List PV → Bool
  | [] => true
  | x :: xs => noScr x && noScrs xs
end
mutual
theorem eqv_toD : ∀ (p q : PV), noScr p = true → noScr q = true → PyData.eqv (toD p) (toD q) = peq p q
  | p, q, hp, hq => by
    cases p <;> cases q <;> first
      | (simp [noScr] at hp; done)
      | (simp [noScr] at hq; done)
      | (unfold toD PyData.eqv peq; rfl)
      | (rename_i xs ys; rw [noScr] at hp hq; unfold toD PyData.eqv peq; exact eqv_toDs xs ys hp hq)
theorem eqv_toDs : ∀ (ps qs : List PV), noScrs ps = true → noScrs qs = true → PyData.eqvAll (toDs ps) (toDs qs) = peqs ps qs
  | [], [], _, _ => by unfold toDs PyData.eqvAll peqs; rfl
  | [], _ :: _, _, _ => by unfold toDs PyData.eqvAll peqs; rfl
  | _ :: _, [], _, _ => by unfold toDs PyData.eqvAll peqs; rfl
  | x :: xs, y :: ys, hp, hq => by
    rw [noScrs, Bool.and_eq_true] at hp hq
    unfold toDs PyData.eqvAll peqs
    rw [eqv_toD x y hp.1 hq.1, eqv_toDs xs ys hp.2 hq.2]
end
section
variable {K : PySem.W.Frag} {mg : Str → Option Value} {Z Fz : Hp} {ρ : List Addr} {st : Store} {H : Hp}
mutual
theorem dp_of (hf : ∀ a o, Fz a = some o → H a = some o) : ∀ (n : Nat) (p : PV) {v : V}, dOk n p = true → noScr p = true → Rep K mg Fz ρ p v → Dp K H v (toD p)
  | n, .non, v, h, _, r => by rw [Rep] at r; subst r; exact .non
  | n, .bl _, v, h, _, r => by rw [Rep] at r; subst r; exact .bl _
  | n, .int _, v, h, _, r => by rw [Rep] at r; subst r; exact .int _
  | n, .str _, v, h, _, r => by rw [Rep] at r; subst r; exact .str _
  | 0, .tup _, _, h, _, _ => by simp [dOk] at h
  | n + 1, .tup xs, v, h, hs, r => by
    rw [dOk] at h
    rw [noScr] at hs
    rw [Rep] at r
    obtain ⟨a, vs, rfl, r1, _, r2⟩ := r
    exact .tup (sqT_mono hf r1) (dp_ofs hf n xs h hs r2)
  | 0, .lst _, _, h, _, _ => by simp [dOk] at h
  | n + 1, .lst xs, v, h, hs, r => by
    rw [dOk] at h
    rw [noScr] at hs
    rw [Rep] at r
    obtain ⟨a, vs, rfl, r1, _, r2⟩ := r
    exact .lst (SqL.of (hf _ _ r1)) (dp_ofs hf n xs h hs r2)
  | n, .scr _, _, _, hs, _ => by simp [noScr] at hs
  | n, .own _, _, h, _, _ => by cases n <;> simp [dOk] at h
  | n, .glo _, _, h, _, _ => by cases n <;> simp [dOk] at h
  | n, .tpn _, _, h, _, _ => by cases n <;> simp [dOk] at h
theorem dp_ofs (hf : ∀ a o, Fz a = some o → H a = some o) : ∀ (n : Nat) (ps : List PV) {vs : List V}, dOks n ps = true → noScrs ps = true → RepL K mg Fz ρ ps vs → DpAll K H vs (toDs ps)
  | n, [], vs, h, _, r => by rw [RepL] at r; subst r; exact .nil
  | n, x :: xs, vs, h, hs, r => by
    rw [dOks, Bool.and_eq_true] at h
    rw [noScrs, Bool.and_eq_true] at hs
    rw [RepL] at r
    obtain ⟨v, w, rfl, r1, r2⟩ := r
    exact .cons (dp_of hf n x h.1 hs.1 r1) (dp_ofs hf n xs h.2 hs.2 r2)
end
end
def rsv (st : Store) : PV → PV
  | .scr ns => .lst (ns.map PV.int)
  | .own k => (match st[k]? with
    | some (.lst xs) => .lst xs
    | some (.frz xs) => .lst xs
    | _ => .own k)
  | p => p
def dChk (p : PV) : Bool := dOk 60 p && noScr p
theorem dp_rsv {K : PySem.W.Frag} {mg : Str → Option Value} {Z Fz : Hp} {ρ : List Addr} {st : Store} {H : Hp} {p : PV} {v : V} (rl : Rel K mg Z Fz ρ st H) (r : Rep K mg Fz ρ p v) (h : dChk (rsv st p) = true) : Dp K H v (toD (rsv st p)) := by
  unfold dChk at h
  rw [Bool.and_eq_true] at h
  have key : ∀ xs, asL st p = some xs → rsv st p = .lst xs → Dp K H v (toD (rsv st p)) := fun xs e1 e2 => by
    obtain ⟨a, vs, rfl, s, _, rr⟩ := asL_ok rl r e1
    rw [e2] at h ⊢
    rw [dOk] at h
    rw [noScr] at h
    exact .lst s (dp_ofs rl.fz 59 xs h.1 h.2 rr)
  cases p with
  | scr ns => exact key _ rfl rfl
  | own k =>
    cases e : st[k]? with
    | none => simp [rsv, e, dOk] at h
    | some c =>
      cases c with
      | lst xs => exact key xs (by simp [asL, e]) (by simp [rsv, e])
      | frz xs => exact key xs (by simp [asL, e]) (by simp [rsv, e])
      | dct _ => simp [rsv, e, dOk] at h
      | dcn _ => simp [rsv, e, dOk] at h
      | dkf _ => simp [rsv, e, dOk] at h
      | dnf _ => simp [rsv, e, dOk] at h
      | tpl _ => simp [rsv, e, dOk] at h
      | ins _ _ => simp [rsv, e, dOk] at h
      | exc _ => simp [rsv, e, dOk] at h
  | _ => exact dp_of rl.fz 60 _ h.1 h.2 r
theorem shaped_chk {p : PV} (h : dChk p = true) : SeqAt.shaped (toD p) = true := by
  unfold dChk at h
  rw [Bool.and_eq_true] at h
  obtain ⟨a, b⟩ := lay_toD 60 p h.1
  unfold SeqAt.shaped
  rw [a, Bool.true_and, decide_eq_true_eq]
  omega
def oEq : PV → PV → Store → Option PV := fun x y st => if (dChk (rsv st x) && dChk (rsv st y)) = true then some (.bl (peq (rsv st x) (rsv st y))) else none
def oNe : PV → PV → Store → Option PV := fun x y st => if (dChk (rsv st x) && dChk (rsv st y)) = true then some (.bl (!peq (rsv st x) (rsv st y))) else none
theorem jo_eq (hu : X.A.units + 64 < cLine) : JOp X (compareOp .Eq) oEq := by
  refine ⟨_, op_eqD hu, fun Z Fz ρ st H x y px py pz Q rl rx ry e q => ?_⟩
  unfold oEq at e
  split at e
  · rename_i c
    rw [Bool.and_eq_true] at c
    cases e
    refine ⟨_, _, dp_rsv rl rx c.1, dp_rsv rl ry c.2, shaped_chk c.1, shaped_chk c.2, ?_⟩
    have c1 := c.1
    have c2 := c.2
    unfold dChk at c1 c2
    rw [Bool.and_eq_true] at c1 c2
    rw [eqv_toD _ _ c1.2 c2.2]
    exact q Fz ρ H _ Ext.refl rl (by rw [Rep])
  · cases e
theorem jo_ne (hu : X.A.units + 64 < cLine) : JOp X (compareOp .NotEq) oNe := by
  refine ⟨_, op_neD hu, fun Z Fz ρ st H x y px py pz Q rl rx ry e q => ?_⟩
  unfold oNe at e
  split at e
  · rename_i c
    rw [Bool.and_eq_true] at c
    cases e
    refine ⟨_, _, dp_rsv rl rx c.1, dp_rsv rl ry c.2, shaped_chk c.1, shaped_chk c.2, ?_⟩
    have c1 := c.1
    have c2 := c.2
    unfold dChk at c1 c2
    rw [Bool.and_eq_true] at c1 c2
    rw [eqv_toD _ _ c1.2 c2.2]
    exact q Fz ρ H _ Ext.refl rl (by rw [Rep])
  · cases e
def oIsN : PV → PV → Store → Option PV
  | x, .non, _ => some (.bl (match x with
    | .non => true
    | _ => false))
  | .bl a, .bl b, _ => some (.bl (decide (a = b)))
  | _, _, _ => none
theorem rep_non {K : PySem.W.Frag} {mg : Str → Option Value} {Fz : Hp} {ρ : List Addr} {p : PV} {v : V} (h : Rep K mg Fz ρ p v) : (v = .non) ↔ (p = .non) := by
  cases p <;> rw [Rep] at h
  case non => simp [h]
  case bl => simp [h]
  case int => simp [h]
  case str => simp [h]
  case tup => obtain ⟨_, _, rfl, _⟩ := h; simp
  case lst => obtain ⟨_, _, rfl, _⟩ := h; simp
  case scr => obtain ⟨_, rfl, _⟩ := h; simp
  case own => obtain ⟨_, _, rfl⟩ := h; simp
  case glo => obtain ⟨_, _, rfl⟩ := h; simp
  case tpn => obtain ⟨_, _, _, rfl, _⟩ := h; simp
theorem jo_is : JOp X (compareOp .Is) oIsN := by
  refine ⟨_, (op_isN).or (op_isBl), fun Z Fz ρ st H x y px py pz Q rl rx ry e q => ?_⟩
  unfold oIsN at e
  split at e
  · cases e
    rw [Rep] at ry
    refine .inl ⟨ry, q Fz ρ H _ Ext.refl rl ?_⟩
    rw [Rep]
    have z := rep_non rx
    cases px <;> simp_all
  · cases e
    rw [Rep] at rx ry
    exact .inr ⟨_, _, rx, ry, q Fz ρ H _ Ext.refl rl (by rw [Rep])⟩
  · cases e
end
end Lq
end
section
set_option Elab.async false
set_option linter.all false
set_option maxRecDepth 10000
namespace Lq
open PySem PySem.Spec PyProof.Rows L2
def asS (st : Store) : PV → Option (List PV)
  | .tup xs => some xs
  | p => asL st p
section
variable {K : PySem.W.Frag} {mg : Str → Option Value} {Z Fz : Hp} {ρ : List Addr} {st : Store} {H : Hp} {p : PV} {v : V} {xs : List PV}
theorem asS_ok (r : Rel K mg Z Fz ρ st H) (h : Rep K mg Fz ρ p v) (e : asS st p = some xs) : ∃ a vs, v = .ref a ∧ (SqL K H a vs ∨ SqT K H a vs) ∧ xs.length ≤ sizeLine ∧ RepL K mg Fz ρ xs vs := by
  cases p with
  | tup ys =>
    cases e
    obtain ⟨a, vs, h1, h2, h3, h4⟩ := tup_ok r h
    exact ⟨a, vs, h1, .inr h2, h3, h4⟩
  | _ =>
    obtain ⟨a, vs, h1, h2, h3, h4⟩ := asL_ok r h e
    exact ⟨a, vs, h1, .inl h2, h3, h4⟩
end
def flatP : PV → Bool
  | .non => true
  | .bl _ => true
  | .int _ => true
  | .str _ => true
  | _ => false
section
variable {K : PySem.W.Frag} {mg : Str → Option Value} {Z Fz : Hp} {ρ : List Addr}
theorem flat_rep {p : PV} {v : V} (h : Rep K mg Fz ρ p v) (f : flatP p = true) : flatV v = true := by
  cases p <;> first | (simp [flatP] at f; done) | (rw [Rep] at h; subst h; rfl)
theorem flats_rep : ∀ {ps : List PV} {vs : List V}, RepL K mg Fz ρ ps vs → ps.all flatP = true → vs.all flatV = true
  | [], _, h, _ => by rw [RepL] at h; subst h; rfl
  | x :: xs, _, h, f => by
    rw [RepL] at h
    obtain ⟨v, r, rfl, h1, h2⟩ := h
    rw [List.all_cons, Bool.and_eq_true] at f
    rw [List.all_cons, flat_rep h1 f.1, flats_rep h2 f.2]; rfl
theorem eqV_rep {p q : PV} {v u : V} (h : Rep K mg Fz ρ p v) (h' : Rep K mg Fz ρ q u) (f : flatP p = true) (f' : flatP q = true) : eqV v u = peq p q := by
  cases p <;> first | (simp [flatP] at f; done) | (cases q <;> first | (simp [flatP] at f'; done) | (rw [Rep] at h; rw [Rep] at h'; subst h; subst h'; unfold peq; rfl))
theorem inV_rep {p : PV} {v : V} (h : Rep K mg Fz ρ p v) (f : flatP p = true) : ∀ {ps : List PV} {vs : List V}, RepL K mg Fz ρ ps vs → ps.all flatP = true → inV v vs = ps.any fun z => peq z p
  | [], _, h', _ => by rw [RepL] at h'; subst h'; rfl
  | x :: xs, _, h', f' => by
    rw [RepL] at h'
    obtain ⟨w, r, rfl, h1, h2⟩ := h'
    rw [List.all_cons, Bool.and_eq_true] at f'
    have ih := inV_rep h f h2 f'.2
    unfold inV at ih ⊢
    rw [List.any_cons, List.any_cons, eqV_rep h1 h f'.1 f, ih]
end
section
variable {X : Cx}
def oNinF : PV → PV → Store → Option PV := fun x y st => match asS st y with
  | some xs => if (flatP x && xs.all flatP) = true then some (.bl (!xs.any fun z => peq z x)) else none
  | none => none
theorem jo_ninF : JOp X (compareOp .NotIn) oNinF := by
  refine ⟨_, op_notIn_seq, fun Z Fz ρ st H x y px py pz Q rl rx ry e q => ?_⟩
  unfold oNinF at e
  split at e
  · rename_i xs es
    split at e
    · rename_i c
      rw [Bool.and_eq_true] at c
      cases e
      obtain ⟨a, vs, rfl, s, _, rr⟩ := asS_ok rl ry es
      refine ⟨a, vs, rfl, s, flat_rep rx c.1, flats_rep rr c.2, ?_⟩
      rw [if_pos rfl, inV_rep rx c.1 rr c.2]
      exact q Fz ρ H _ Ext.refl rl (by rw [Rep])
    · cases e
  · cases e
def subIn (i j : Str) : Bool := match i.cps.toList with
  | [c] => decide (c ∈ j.cps.toList)
  | _ => !(Builtin.Str.occurrences j i 0 j.length 1).isEmpty
theorem one_sign {i : Str} {c : Nat} (h : i.cps.toList = [c]) : i = ⟨#[c]⟩ := by
  obtain ⟨a⟩ := i
  have h' : a.toList = [c] := h
  have : a = #[c] := by rw [← Array.toArray_toList (xs := a), h']
  rw [this]
def oNinS : PV → PV → Store → Option PV
  | .str i, .str j, _ => some (.bl (!subIn i j))
  | _, _, _ => none
theorem jo_ninS : JOp X (compareOp .NotIn) oNinS := by
  refine ⟨_, (op_notIn_sign).or op_notIn_str, fun Z Fz ρ st H x y px py pz Q rl rx ry e q => ?_⟩
  unfold oNinS at e
  split at e
  · rename_i i j
    cases e
    rw [Rep] at rx ry
    have z := q Fz ρ H (.bl (!subIn i j)) Ext.refl rl (by rw [Rep])
    unfold subIn at z
    split at z
    · rename_i c hc
      exact .inl ⟨c, j, by rw [rx, one_sign hc], ry, z⟩
    · exact .inr ⟨i, j, rx, ry, z⟩
  · cases e
def oNinD : PV → PV → Store → Option PV := fun x y st => match rsv st y with
  | .lst xs => if (dChk x && dChk (.lst xs)) = true then some (.bl (!xs.any fun z => peq z x)) else none
  | _ => none
theorem any_toD {x : PV} (hx : noScr x = true) : ∀ (xs : List PV), noScrs xs = true → ((toDs xs).any fun z => PyData.eqv z (toD x)) = xs.any fun z => peq z x
  | [], _ => by unfold toDs; rfl
  | y :: ys, h => by
    rw [noScrs, Bool.and_eq_true] at h
    unfold toDs
    rw [List.any_cons, List.any_cons, eqv_toD y x h.1 hx, any_toD hx ys h.2]
theorem dp_x {Z Fz : Hp} {ρ : List Addr} {st : Store} {H : Hp} {p : PV} {v : V} (rl : Rel X.K X.mg Z Fz ρ st H) (r : Rep X.K X.mg Fz ρ p v) (h : dChk p = true) : Dp X.K H v (toD p) := by
  unfold dChk at h
  rw [Bool.and_eq_true] at h
  exact dp_of rl.fz 60 _ h.1 h.2 r
theorem jo_ninD (hu : X.A.units + 65 < cLine) : JOp X (compareOp .NotIn) oNinD := by
  refine ⟨_, op_notInD hu, fun Z Fz ρ st H x y px py pz Q rl rx ry e q => ?_⟩
  unfold oNinD at e
  split at e
  · rename_i xs er
    split at e
    · rename_i c
      rw [Bool.and_eq_true] at c
      cases e
      have d := dp_rsv rl ry (by rw [er]; exact c.2)
      rw [er] at d
      have s2 := shaped_chk c.2
      rw [toD] at d s2
      refine ⟨_, _, dp_x rl rx c.1, d, shaped_chk c.1, s2, ?_⟩
      have c1 := c.1
      have c2 := c.2
      unfold dChk at c1 c2
      rw [Bool.and_eq_true] at c1 c2
      rw [any_toD c1.2 xs (by have := c2.2; rw [noScr] at this; exact this)]
      exact q Fz ρ H _ Ext.refl rl (by rw [Rep])
    · cases e
  · cases e
def oNin := oOr oNinF (oOr oNinS oNinD)
theorem jo_nin (hu : X.A.units + 65 < cLine) : JOp X (compareOp .NotIn) oNin := jo_ninF.or (jo_ninS.or (jo_ninD hu))
def asInts : List PV → Option (List Int)
  | [] => some []
  | .int i :: r => (asInts r).map (i :: ·)
  | _ :: _ => none
theorem asInts_eq : ∀ {xs : List PV} {ns : List Int}, asInts xs = some ns → xs = ns.map PV.int
  | [], ns, h => by cases h; rfl
  | x :: r, ns, h => by
    cases x <;> first | (simp [asInts] at h; done) | skip
    rename_i i
    cases e : asInts r with
    | none => simp [asInts, e] at h
    | some ms =>
      have : ns = i :: ms := by simp [asInts, e] at h; exact h.symm
      subst this
      rw [asInts_eq e]; rfl
def oLtT : PV → PV → Store → Option PV
  | .tup xs, .tup ys, _ => (match asInts xs, asInts ys with
    | some ns, some ms => some (.bl (HT.lexLt ns ms))
    | _, _ => none)
  | _, _, _ => none
theorem jo_ltT (hu : X.A.units < cLine) : JOp X (compareOp .Lt) oLtT := by
  refine ⟨_, op_ltT hu, fun Z Fz ρ st H x y px py pz Q rl rx ry e q => ?_⟩
  unfold oLtT at e
  split at e
  · rename_i xs ys
    split at e
    · rename_i ns ms e1 e2
      cases e
      obtain ⟨a, vs, rfl, sa, _, ra⟩ := tup_ok rl rx
      obtain ⟨b, ws, rfl, sb, _, rb⟩ := tup_ok rl ry
      rw [asInts_eq e1] at ra
      rw [asInts_eq e2] at rb
      rw [RepL.of_ints ra] at sa
      rw [RepL.of_ints rb] at sb
      exact ⟨a, b, ns, ms, rfl, rfl, sa, sb, q Fz ρ H _ Ext.refl rl (by rw [Rep])⟩
    · cases e
  · cases e
def oLt := oOr oLtI oLtT
theorem jo_lt (hu : X.A.units < cLine) : JOp X (compareOp .Lt) oLt := jo_ltI.or (jo_ltT hu)
def JIx (X : Cx) (o : PV → PV → Store → Option PV) : Prop := ∃ r : R2, IxR X r ∧
  ∀ Z Fz ρ st H x y px py pz Q, Rel X.K X.mg Z Fz ρ st H → Rep X.K X.mg Fz ρ px x → Rep X.K X.mg Fz ρ py y → o px py st = some pz →
    (∀ Fz' ρ' H' v', Ext Fz ρ Fz' ρ' → Rel X.K X.mg Z Fz' ρ' st H' → Rep X.K X.mg Fz' ρ' pz v' → Q v' H') → r x y H Q
def oIx : PV → PV → Store → Option PV := fun x y st => match y with
  | .int i => (match x with
    | .str z => if z.length ≤ sizeLine then (atI z.cps.toList i).map fun c => .str ⟨#[c]⟩ else none
    | _ => (match asS st x with
      | some xs => atI xs i
      | none => none))
  | _ => none
theorem atI_rep {K : PySem.W.Frag} {mg : Str → Option Value} {Fz : Hp} {ρ : List Addr} {ps : List PV} {vs : List V} {i : Int} {p : PV} (h : RepL K mg Fz ρ ps vs) (e : atI ps i = some p) : ∃ v, atI vs i = some v ∧ Rep K mg Fz ρ p v := by
  unfold atI at e ⊢
  rw [← h.len]
  cases q : ixN ps.length i with
  | none => rw [q] at e; cases e
  | some j =>
    rw [q] at e
    exact RepL.get (i := j) h e
theorem jx_ix : JIx X oIx := by
  refine ⟨_, ix_seq, fun Z Fz ρ st H x y px py pz Q rl rx ry e q => ?_⟩
  unfold oIx at e
  split at e
  · rename_i i
    rw [Rep] at ry
    split at e
    · rename_i z
      rw [Rep] at rx
      split at e
      · rename_i hz
        cases a : atI z.cps.toList i with
        | none => rw [a] at e; cases e
        | some c =>
          rw [a] at e
          cases e
          exact .inr (.inr ⟨z, i, c, rx, ry, hz, a, q Fz ρ H _ Ext.refl rl (by rw [Rep])⟩)
      · cases e
    · split at e
      · rename_i xs es
        obtain ⟨a, vs, rfl, s, _, rr⟩ := asS_ok rl rx es
        obtain ⟨v, ev, rv⟩ := atI_rep rr e
        rcases s with s | s
        · exact .inl ⟨a, vs, i, v, rfl, ry, s, ev, q Fz ρ H _ Ext.refl rl rv⟩
        · exact .inr (.inl ⟨a, vs, i, v, rfl, ry, s, ev, q Fz ρ H _ Ext.refl rl rv⟩)
      · cases e
  · cases e
variable {E : XK} {a b e : Expr} {es : List Expr} {pos : Pos} {fa fb : XE}
theorem je_ix {o} (h : JIx X o) (ha : JE X E a fa) (hb : JE X E b fb) (hs : PlainIx b := by exact fun _ _ => rfl) : JE X E (.Subscript a b pos) (eBin o fa fb) := by
  obtain ⟨r, hr, sr⟩ := h
  obtain ⟨ta, pa, sa⟩ := ha
  obtain ⟨tb, pb, sb⟩ := hb
  exact ⟨tOp r ta tb, pe_ix hr pa pb hs, sbin sr sa sb⟩
def cutP (xs : List PV) (lo hi : Option Int) : List PV := (xs.drop (HT.sIx xs.length 0 lo)).take (HT.sIx xs.length xs.length hi - HT.sIx xs.length 0 lo)
def oCut (x : PV) (lo hi : Option Int) (st : Store) : Option PV := match x with
  | .str z => if z.length ≤ sizeLine then some (.str (cutS z lo hi)) else none
  | .tup xs => some (.tup (cutP xs lo hi))
  | _ => (match asL st x with
    | some xs => some (.lst (cutP xs lo hi))
    | none => none)
def XO := Ev → Store → R (Option Int)
def pNone : XO := fun _ st => .ok none st
def pSome (f : XE) : XO := fun env st => (f env st).bind fun v s => match v with
  | .int i => .ok (some i) s
  | _ => .no
def eCut (f : XE) (lo hi : XO) : XE := fun env st => (f env st).bind fun x s1 => (lo env s1).bind fun l s2 => (hi env s2).bind fun u s3 => match oCut x l u s3 with
  | some z => .ok z s3
  | none => .no
theorem SlR.or {r r' : V → Option Int → Option Int → Hp → VK → Prop} (h : L2.SlR X r) (h' : L2.SlR X r') : L2.SlR X (fun x lo hi H Q => r x lo hi H Q ∨ r' x lo hi H Q) :=
  fun pins s σ H x v vl vu lo hi sl Q I rx a b c q => q.elim (fun q => h pins s σ H x v vl vu lo hi sl Q I rx a b c q) fun q => h' pins s σ H x v vl vu lo hi sl Q I rx a b c q
def oNeg : PV → Option PV
  | .int i => some (.int (-i))
  | _ => none
theorem je_neg (h : JE X E a fa) : JE X E (.UnaryOp .USub a pos) (eUn oNeg fa) := by
  obtain ⟨t, p, s⟩ := h
  refine ⟨_, pe_un un_neg p, fun Z Fz ρ env st σ H Q rl hh o => ?_⟩
  refine s Z Fz ρ env st σ H _ rl hh (o.seq.mono fun x s1 F1 r1 H1 _ ex1 rl1 o1 x' rx => ?_)
  split at o1
  · rename_i z ez
    unfold oNeg at ez
    split at ez
    · cases ez
      rw [Rep] at rx
      exact ⟨_, rx, o1.here rl1 _ (by rw [Rep])⟩
    · cases ez
  · exact o1.elim
end
end Lq
end
section
set_option Elab.async false
set_option linter.all false
set_option maxRecDepth 10000
namespace Lq
open PySem PySem.Spec PyProof.Rows L2
def JC (X : Cx) (f : Value) (o : List PV → Store → Option PV) : Prop := ∃ r : List V → Hp → VK → Prop, CallR X f r ∧
  ∀ Z Fz ρ st H vs ps pz Q, Rel X.K X.mg Z Fz ρ st H → RepL X.K X.mg Fz ρ ps vs → o ps st = some pz →
    (∀ Fz' ρ' H' v', Ext Fz ρ Fz' ρ' → Rel X.K X.mg Z Fz' ρ' st H' → Rep X.K X.mg Fz' ρ' pz v' → Q v' H') → r vs H Q
def eCB (o : List PV → Store → Option PV) (a : XL) : XE := fun env st => (a env st).bind fun xs s => match o xs s with
  | some z => .ok z s
  | none => .no
section
variable {X : Cx} {E : XK} {a b e : Expr} {es : List Expr} {p pos : Pos} {fa fb : XE} {f : XL} {x : Str} {id T : String}
theorem s_cb {r : List V → Hp → VK → Prop} {t : TA} {o : List PV → Store → Option PV} (sr : ∀ Z Fz ρ st H vs ps pz Q, Rel X.K X.mg Z Fz ρ st H → RepL X.K X.mg Fz ρ ps vs → o ps st = some pz →
    (∀ Fz' ρ' H' v', Ext Fz ρ Fz' ρ' → Rel X.K X.mg Z Fz' ρ' st H' → Rep X.K X.mg Fz' ρ' pz v' → Q v' H') → r vs H Q) (s : SA X.K X.mg E t f) : SE X.K X.mg E (tCB r t) (eCB o f) := fun Z Fz ρ env st σ H Q rl hh o => by
  refine s Z Fz ρ env st σ H _ rl hh (o.seq.mono fun xs s1 F1 r1 H1 _ ex1 rl1 o1 xs' rx => ?_)
  split at o1
  · rename_i z ez
    exact sr Z F1 r1 s1 H1 xs' xs z Q rl1 rx ez fun F2 r2 H2 v' ex2 rl2 rz => o1 F2 r2 H2 ex2 rl2 v' rz
  · exact o1.elim
theorem je_callB {o} (h : JC X (.builtin id) o) (ha : JA X E (e :: es) f) (hm : X.mg x = none) (hv : bootBuiltins x = some (.builtin id)) (hg : Gl X x := by rfl) (hn : x ≠ "__name__" := by decide) (hdb : (x == ("__debug__" : Str)) = false := by decide)
    (he : starEach (e :: es) X.env = (false, eval e X.env) :: starEach es X.env := by rfl) (hpl : (backTo pos (starEach es X.env)).any (·.1) = false := by rfl) : JE X E (.Call (.Name x p) (e :: es) [] pos) (eCB o f) := by
  obtain ⟨r, hr, sr⟩ := h
  obtain ⟨t, pt, st⟩ := ha
  exact ⟨_, pe_callB hr hg hm hv pt hn hdb he hpl, s_cb sr st⟩
theorem je_callTy {o} (h : JC X (.type T) o) (ha : JA X E (e :: es) f) (hm : X.mg x = none) (hv : bootBuiltins x = some (.type T)) (hg : Gl X x := by rfl) (hn : x ≠ "__name__" := by decide) (hdb : (x == ("__debug__" : Str)) = false := by decide)
    (he : starEach (e :: es) X.env = (false, eval e X.env) :: starEach es X.env := by rfl) (hpl : (backTo pos (starEach es X.env)).any (·.1) = false := by rfl) : JE X E (.Call (.Name x p) (e :: es) [] pos) (eCB o f) := by
  obtain ⟨r, hr, sr⟩ := h
  obtain ⟨t, pt, st⟩ := ha
  exact ⟨_, pe_callTy hr hg hm hv pt hn hdb he hpl, s_cb sr st⟩
theorem rep1 {K : PySem.W.Frag} {mg : Str → Option Value} {Fz : Hp} {ρ : List Addr} {p : PV} {vs : List V} (h : RepL K mg Fz ρ [p] vs) : ∃ v, vs = [v] ∧ Rep K mg Fz ρ p v := by
  rw [RepL] at h
  obtain ⟨v, r, rfl, h1, h2⟩ := h
  rw [RepL] at h2
  subst h2
  exact ⟨v, rfl, h1⟩
def oLen : List PV → Store → Option PV
  | [.str z], _ => if z.length ≤ sizeLine then some (.int z.length) else none
  | [p], st => (match asS st p with
    | some xs => some (.int xs.length)
    | none => none)
  | _, _ => none
theorem jc_len : JC X (.builtin "len") oLen := by
  refine ⟨_, call_len, fun Z Fz ρ st H vs ps pz Q rl rp e q => ?_⟩
  unfold oLen at e
  split at e
  · obtain ⟨v, rfl, rv⟩ := rep1 rp
    rw [Rep] at rv
    subst rv
    split at e
    · rename_i hz
      cases e
      exact ⟨_, _, rfl, ⟨hz, rfl⟩, q Fz ρ H _ Ext.refl rl (by rw [Rep])⟩
    · cases e
  · obtain ⟨v, rfl, rv⟩ := rep1 rp
    split at e
    · rename_i xs es
      cases e
      obtain ⟨a, ws, rfl, s, _, rr⟩ := asS_ok rl rv es
      refine ⟨_, ws.length, rfl, ?_, q Fz ρ H _ Ext.refl rl (by rw [Rep, rr.len])⟩
      exact s.imp (fun s => ⟨ws, s, rfl⟩) fun s => ⟨ws, s, rfl⟩
    · cases e
  · cases e
theorem CallR.or {f : Value} {r r' : List V → Hp → VK → Prop} (h : CallR X f r) (h' : CallR X f r') : CallR X f (fun vs H Q => r vs H Q ∨ r' vs H Q) :=
  fun pins s σ H xs us Q I rv q => q.elim (fun q => h pins s σ H xs us Q I rv q) fun q => h' pins s σ H xs us Q I rv q
def oSum : List PV → Store → Option PV
  | [p], st => (match asL st p with
    | some xs => (asInts xs).map fun ns => .int ns.sum
    | none => none)
  | _, _ => none
theorem jc_sum (hc : X.calm = true) : JC X (.builtin "sum") oSum := by
  refine ⟨_, cr_sum hc, fun Z Fz ρ st H vs ps pz Q rl rp e q => ?_⟩
  unfold oSum at e
  split at e
  · obtain ⟨v, rfl, rv⟩ := rep1 rp
    split at e
    · rename_i xs es
      cases en : asInts xs with
      | none => rw [en] at e; cases e
      | some ns =>
        rw [en] at e
        cases e
        obtain ⟨a, ws, rfl, s, _, rr⟩ := asL_ok rl rv es
        rw [asInts_eq en] at rr
        rw [RepL.of_ints rr] at s
        exact ⟨a, ns, rfl, s, q Fz ρ H _ Ext.refl rl (by rw [Rep])⟩
    · cases e
  · cases e
def maxI : Int → List Int → Int
  | m, [] => m
  | m, x :: r => maxI (if m < x then x else m) r
def minI : Int → List Int → Int
  | m, [] => m
  | m, x :: r => minI (if x < m then x else m) r
def asBools : List PV → Option (List Bool)
  | [] => some []
  | .bl b :: r => (asBools r).map (b :: ·)
  | _ :: _ => none
theorem asBools_eq : ∀ {xs : List PV} {ns : List Bool}, asBools xs = some ns → xs = ns.map PV.bl
  | [], ns, h => by cases h; rfl
  | x :: r, ns, h => by
    cases x <;> first | (simp [asBools] at h; done) | skip
    rename_i i
    cases e : asBools r with
    | none => simp [asBools, e] at h
    | some ms =>
      have : ns = i :: ms := by simp [asBools, e] at h; exact h.symm
      subst this
      rw [asBools_eq e]; rfl
theorem of_bools {K : PySem.W.Frag} {mg : Str → Option Value} {Fz : Hp} {ρ : List Addr} : ∀ {ns : List Bool} {vs : List V}, RepL K mg Fz ρ (ns.map PV.bl) vs → vs = ns.map V.bl
  | [], _, h => by rw [List.map_nil, RepL] at h; exact h
  | n :: ns, _, h => by
    rw [List.map_cons, RepL] at h
    obtain ⟨v, r, rfl, h1, h⟩ := h
    rw [Rep] at h1
    rw [h1, of_bools h]; rfl
def oAll : List PV → Store → Option PV
  | [p], st => (match asL st p with
    | some xs => (asBools xs).map fun ns => .bl (ns.all _root_.id)
    | none => none)
  | _, _ => none
theorem jc_all (hc : X.calm = true) : JC X (.builtin "all") oAll := by
  refine ⟨_, cr_all hc, fun Z Fz ρ st H vs ps pz Q rl rp e q => ?_⟩
  unfold oAll at e
  split at e
  · obtain ⟨v, rfl, rv⟩ := rep1 rp
    split at e
    · rename_i xs es
      cases en : asBools xs with
      | none => rw [en] at e; cases e
      | some ns =>
        rw [en] at e
        cases e
        obtain ⟨a, ws, rfl, s, _, rr⟩ := asL_ok rl rv es
        rw [asBools_eq en] at rr
        rw [of_bools rr] at s
        exact ⟨a, ns, rfl, s, q Fz ρ H _ Ext.refl rl (by rw [Rep])⟩
    · cases e
  · cases e
def oTuple : List PV → Store → Option PV
  | [.tup xs], _ => some (.tup xs)
  | [p], st => (match asL st p with
    | some xs => some (.tup xs)
    | none => none)
  | _, _ => none
theorem jc_tuple : JC X (.type "tuple") oTuple := by
  refine ⟨_, call_tuple_of, fun Z Fz ρ st H vs ps pz Q rl rp e q => ?_⟩
  unfold oTuple at e
  split at e
  · obtain ⟨v, rfl, rv⟩ := rep1 rp
    cases e
    obtain ⟨a, ws, rfl, s, _, rr⟩ := tup_ok rl rv
    exact ⟨a, ws, rfl, .inr ⟨s, q Fz ρ H _ Ext.refl rl rv⟩⟩
  · obtain ⟨v, rfl, rv⟩ := rep1 rp
    split at e
    · rename_i xs es
      cases e
      obtain ⟨a, ws, rfl, s, hl, rr⟩ := asL_ok rl rv es
      refine ⟨a, ws, rfl, .inl ⟨s, fun p hp => ?_⟩⟩
      obtain ⟨rl2, ex2⟩ := rl.frozen hp (.tup ws)
      exact q _ _ _ _ ex2 rl2 (by rw [Rep]; exact ⟨p, ws, rfl, SqT.of upd_same, hl, rr.mono ex2⟩)
    · cases e
  · cases e
def fList (a : XE) : XL := fun env st => (a env st).bind fun p s => match asS s p with
  | some xs => .ok xs s
  | none => .no
theorem jf_list (ha : JE X E a fa) (hm : X.mg "list" = none) (hg : Gl X "list" := by rfl)
    (he : starEach [a] X.env = (false, eval a X.env) :: starEach [] X.env := by rfl) (hpl : (backTo pos (starEach [] X.env)).any (·.1) = false := by rfl) : JF X E (.Call (.Name "list" p) [a] [] pos) (fList fa) := by
  obtain ⟨t, pt, s⟩ := ha
  refine ⟨_, pe_callTy call_list_of hg hm (by decide +kernel) (pa_cons pt pa_nil he) (he := he) (hpl := hpl), fun Z Fz ρ env st σ H Q rl hh o => ?_⟩
  refine s Z Fz ρ env st σ H _ rl hh (o.seq.mono fun x s1 F1 r1 H1 _ ex1 rl1 o1 x' rx => ?_)
  split at o1
  · rename_i xs es
    obtain ⟨a, ws, rfl, s, hl, rr⟩ := asS_ok rl1 rx es
    exact ⟨a, ws, rfl, s, fun p hp => o1.here rl1 p ws hp hl rr⟩
  · exact o1.elim
def fAdd (a b : XE) : XL := fun env st => (a env st).bind fun x s1 => (b env s1).bind fun y s2 => match asM s2 x, asM s2 y with
  | some xs, some ys => if xs.length + ys.length ≤ sizeLine then .ok (xs ++ ys) s2 else .no
  | _, _ => .no
theorem jf_add (ha : JE X E a fa) (hb : JE X E b fb) : JF X E (.BinOp a .Add b pos) (fAdd fa fb) := by
  obtain ⟨ta, pa, sa⟩ := ha
  obtain ⟨tb, pb, sb⟩ := hb
  refine ⟨_, pe_op op_cat pa pb, fun Z Fz ρ env st σ H Q rl h o => ?_⟩
  refine sa Z Fz ρ env st σ H _ rl h (o.seq.mono fun x s1 F1 r1 H1 _ ex1 rl1 o1 x' rx => ?_)
  refine sb Z F1 r1 env s1 σ H1 _ rl1 (h.mono ex1) (o1.seq.mono fun y s2 F2 r2 H2 _ ex2 rl2 o2 y' ry => ?_)
  split at o2
  · rename_i xs ys ex ey
    split at o2
    · rename_i c
      obtain ⟨a, vs, rfl, sa, la, ra⟩ := asM_ok rl2 (rx.mono ex2) ex
      obtain ⟨b, ws, rfl, sb, lb, rb⟩ := asM_ok rl2 ry ey
      exact ⟨a, b, vs, ws, rfl, rfl, sa, sb, by rw [← ra.len, ← rb.len]; exact c, fun p hp => o2.here rl2 p _ hp (by simpa using c) (ra.app rb)⟩
    · exact o2.elim
  · exact o2.elim
def fMul (a b : XE) : XL := fun env st => (a env st).bind fun x s1 => (b env s1).bind fun y s2 => match asM s2 x, y with
  | some xs, .int k => if -(2 ^ 63) ≤ k ∧ k < 2 ^ 63 ∧ xs.length * k.toNat ≤ sizeLine then .ok (List.replicate k.toNat xs).flatten s2 else .no
  | _, _ => .no
end
inductive Kd where
  | non | bl | int | str | tup | lst | dct
  deriving DecidableEq
def Kd.nm : Kd → String
  | .non => "NoneType" | .bl => "bool" | .int => "int" | .str => "str" | .tup => "tuple" | .lst => "list" | .dct => "dict"
def Kd.isa : Kd → Kd → Bool
  | .bl, .int => true
  | .non, .non => true | .bl, .bl => true | .int, .int => true | .str, .str => true | .tup, .tup => true | .lst, .lst => true | .dct, .dct => true
  | _, _ => false
theorem kitB_ok (a b : Kd) (hb : b ≠ .non) : kitB a.nm b.nm = some (a.isa b) := by
  cases a <;> cases b <;> first | (exact absurd rfl hb) | decide +kernel
def kdOf (st : Store) : PV → Option Kd
  | .non => some .non
  | .bl _ => some .bl
  | .int _ => some .int
  | .str _ => some .str
  | .tup _ => some .tup
  | .lst _ => some .lst
  | .scr _ => some .lst
  | .own k => (match st[k]? with
    | some (.lst _) => some .lst
    | some (.frz _) => some .lst
    | some (.dct _) => some .dct
    | _ => none)
  | .glo _ => none
  | .tpn _ => none
theorem kd_ok {K : PySem.W.Frag} {mg : Str → Option Value} {Z Fz : Hp} {ρ : List Addr} {st : Store} {H : Hp} {p : PV} {v : V} {k : Kd} (rl : Rel K mg Z Fz ρ st H) (r : Rep K mg Fz ρ p v) (h : kdOf st p = some k) : TyX K H v (.type k.nm) := by
  have tl : ∀ {a : Addr} {vs : List V}, SqL K H a vs → TyX K H (.ref a) (.type "list") := fun {a vs} s => by
    rcases s with (s | ⟨o, s⟩) | ⟨o, its, n, s1, s2, _⟩
    · exact .base (.lst s)
    · exact .base (.frz s)
    · exact .kList s1 s2
  cases p with
  | non => cases h; rw [Rep] at r; subst r; exact .base .non
  | bl b => cases h; rw [Rep] at r; subst r; exact .base (.bl _)
  | int b => cases h; rw [Rep] at r; subst r; exact .base (.int _)
  | str b => cases h; rw [Rep] at r; subst r; exact .base (.str _)
  | tup xs =>
    cases h
    obtain ⟨a, vs, rfl, s, _⟩ := tup_ok rl r
    rcases s with (s | ⟨o, s⟩) | ⟨o, its, n, s1, s2, _⟩
    · exact .base (.tup s)
    · exact .fTuple s
    · exact .kTuple s1 s2
  | lst xs =>
    cases h
    obtain ⟨a, vs, rfl, s, _⟩ := asL_ok (xs := xs) rl r rfl
    exact tl s
  | scr xs =>
    cases h
    obtain ⟨a, vs, rfl, s, _⟩ := asL_ok rl r rfl
    exact tl s
  | own j =>
    have key : ∀ xs, asL st (.own j) = some xs → k = .lst → TyX K H v (.type k.nm) := fun xs e e2 => by
      subst e2
      obtain ⟨a, vs, rfl, s, _⟩ := asL_ok rl r e
      exact tl s
    cases e : st[j]? with
    | none => simp [kdOf, e] at h
    | some c =>
      cases c with
      | lst xs => exact key xs (by simp [asL, e]) (by simp [kdOf, e] at h; exact h.symm)
      | frz xs => exact key xs (by simp [asL, e]) (by simp [kdOf, e] at h; exact h.symm)
      | dct kvs =>
        simp [kdOf, e] at h
        subst h
        rw [Rep] at r
        obtain ⟨a, ea, rfl⟩ := r
        obtain ⟨kv, h1, _⟩ := rl.cell j a _ ea e
        exact .base (.dK h1)
      | dcn _ => simp [kdOf, e] at h
      | dkf _ => simp [kdOf, e] at h
      | dnf _ => simp [kdOf, e] at h
      | tpl _ => simp [kdOf, e] at h
      | ins _ _ => simp [kdOf, e] at h
      | exc _ => simp [kdOf, e] at h
  | glo x => cases h
  | tpn x => cases h
def eIsi (b : Kd) (f : XE) : XE := fun env st => (f env st).bind fun p s => match kdOf s p with
  | some k => .ok (.bl (k.isa b)) s
  | none => .no
section
variable {X : Cx} {E : XK} {a b e : Expr} {es : List Expr} {p pos : Pos} {fa fb : XE} {f : XL} {x : Str} {id T : String}
theorem je_isi (k : Kd) {y : Str} {q : Pos} (ha : JE X E a fa) (hm : X.mg "isinstance" = none) (hmT : X.mg y = none) (hvT : bootBuiltins y = some (.type k.nm)) (hk : k ≠ .non := by decide) (hg : Gl X "isinstance" := by rfl) (hgT : Gl X y := by rfl)
    (hnT : y ≠ "__name__" := by decide) (hdT : (y == ("__debug__" : Str)) = false := by decide)
    (he : starEach [a, .Name y q] X.env = (false, eval a X.env) :: starEach [.Name y q] X.env := by rfl) (hpl : (backTo pos (starEach [.Name y q] X.env)).any (·.1) = false := by rfl) : JE X E (.Call (.Name "isinstance" p) [a, .Name y q] [] pos) (eIsi k fa) := by
  obtain ⟨t, pt, s⟩ := ha
  refine ⟨_, pe_callB call_isi hg hm (by decide +kernel) (pa_cons pt (pa_cons (pe_bltn (v := .ty k.nm) hgT hmT hvT rfl hnT hdT) pa_nil) he) (he := he) (hpl := hpl), fun Z Fz ρ env st σ H Q rl hh o => ?_⟩
  refine s Z Fz ρ env st σ H _ rl hh (o.seq.mono fun x s1 F1 r1 H1 _ ex1 rl1 o1 x' rx => ?_)
  split at o1
  · rename_i j ej
    exact ⟨x', .ty k.nm, _, _, j.isa k, rfl, .ty _, kd_ok rl1 rx ej, kit_ty (kitB_ok j k hk), o1.here rl1 _ (by rw [Rep])⟩
  · exact o1.elim
end
end Lq
end
section
set_option Elab.async false
set_option linter.all false
set_option maxRecDepth 100000
namespace Lq
open PySem PySem.Spec PyProof.Rows L2
inductive Sk where
  | L | T
def Sk.sq : Sk → Heap → Addr → Array Value → Prop
  | .L, h, l, its => h.IsList l its
  | .T, h, l, its => h.IsTuple l its
def Sk.it : Sk → Heap → Addr → Addr → Nat → Prop
  | .L, h, i, l, n => h.IsListIter i l n
  | .T, h, i, l, n => h.IsTupleIter i l n
def Sk.Sq (K : PySem.W.Frag) : Sk → Hp → Addr → List V → Prop
  | .L, H, a, xs => SqL K H a xs
  | .T, H, a, xs => SqT K H a xs
theorem Sk.items {k : Sk} {X : Cx} {pins : List (Addr × Obj)} {σ : L2.St} {H : Hp} {s : Shared} {a : Addr} {xs : List V} (I : L2.Inv X pins σ H s) (q : k.Sq X.K H a xs) : ∃ its : List Value, Vals xs its ∧ k.sq s.heap a its.toArray ∧ a < s.heap.objs.size := by
  cases k with
  | L =>
    obtain ⟨its, rv, p, _⟩ := I.list q
    exact ⟨its, rv, p.isList, p.lt⟩
  | T =>
    obtain ⟨its, rv, p, _⟩ := I.tuple q
    obtain ⟨o, ho, _⟩ := id p
    exact ⟨its, rv, p, Heap.lt_size ho⟩
theorem Sk.inj {k : Sk} {X : Cx} {pins : List (Addr × Obj)} {σ : L2.St} {H : Hp} {s : Shared} {a : Addr} {xs ys : List V} (I : L2.Inv X pins σ H s) (q : k.Sq X.K H a xs) (q' : k.Sq X.K H a ys) : xs = ys := by
  cases k with
  | L => exact I.list_inj q q'
  | T => exact I.tuple_inj q q'
section
variable (k1 k2 : Sk) (h : Heap) (l1 l2 : Addr)
end
end Lq
end
section
set_option Elab.async false
set_option linter.all false
set_option maxRecDepth 10000
namespace Lq
open PySem PySem.Spec PyProof.Rows L2
def spF (K : PySem.W.Frag) (mg : Str → Option Value) (n : Nat) (f : Fn) : Sp := fun vs H Q E => vs.length = n ∧ ∃ Z Fz ρ st ps, Rel K mg Z Fz ρ st H ∧ RepL K mg Fz ρ ps vs ∧
  Out K mg Z E Fz ρ (f ps st) (fun v _ Fz' ρ' H' => ∀ v', Rep K mg Fz' ρ' v v' → Q v' H')
structure Cl (P : Program) (w : World) (K : PySem.W.Frag) (mg : Str → Option Value) (base : Heap) (k : Nat) (x : Str) (n : Nat) (f : Fn) : Prop where
  ex : ∃ (a : Addr) (fd : FuncData) (ps : List Str), mg x = some (.ref a) ∧ PySem.W.keepIn K (.ref a) = true ∧ Binds K fd ps [] ∧ FnOk P w K mg base (L2.CX P w) k a fd ps (spF K mg n f)
def eCall (n : Nat) (f : Fn) (a : XL) : XE := fun env st => (a env st).bind fun xs s => if xs.length = n then f xs s else .no
def env0 (m : Nat) (ps : List PV) : Ev := ps.map some ++ List.replicate (m - ps.length) none
def ret (r : R Fl) : R PV := r.bind fun fl s => match fl with
  | .rt v => .ok v s
  | .nx _ => .ok .non s
  | _ => .no
def runF (m : Nat) (g : XS) : Fn := fun ps st => ret (g (env0 m ps) st)
section
variable {X : Cx} {E : XK} {a b e : Expr} {es : List Expr} {p pos : Pos} {fa fb : XE} {x : Str}
theorem s_call {n : Nat} {f : Fn} {t : TA} {fl : XL} (s : SA X.K X.mg E t fl) : SE X.K X.mg E (tCall (spF X.K X.mg n f) [] E t) (eCall n f fl) := fun Z Fz ρ env st σ H Q rl hh o => by
  refine s Z Fz ρ env st σ H _ rl hh (o.seq.mono fun xs s1 F1 r1 H1 _ ex1 rl1 o1 xs' rx => ?_)
  split at o1
  · rename_i hn
    rw [List.append_nil]
    exact ⟨by rw [← rx.len]; exact hn, Z, F1, r1, s1, xs, rl1, rx, o1⟩
  · exact o1.elim
theorem je_call {k j n : Nat} {f : Fn} {fl : XL} (c : Cl X.prog X.w X.K X.mg X.base k x n f) (hr : Room j X.A) (hx : Passes (L2.CX X.prog X.w) X E) (ha : JA X E (e :: es) fl) (hk : k ≤ j := by decide) (hg : Gl X x := by rfl) (hdb : (x == ("__debug__" : Str)) = false := by decide)
    (he : starEach (e :: es) X.env = (false, eval e X.env) :: starEach es X.env := by rfl) (hpl : (backTo pos (starEach es X.env)).any (·.1) = false := by rfl) : JE X E (.Call (.Name x p) (e :: es) [] pos) (eCall n f fl) := by
  obtain ⟨a, fd, ps, hm, hkp, hb, F⟩ := c.ex
  obtain ⟨t, pt, st⟩ := ha
  exact ⟨_, pe_call F (hr.mono hk) hg hm hkp hb .nil hx pt hdb he hpl, s_call st⟩
theorem je_call0 {k j : Nat} {f : Fn} (c : Cl X.prog X.w X.K X.mg X.base k x 0 f) (hr : Room j X.A) (hx : Passes (L2.CX X.prog X.w) X E) (hk : k ≤ j := by decide) (hg : Gl X x := by rfl) (hdb : (x == ("__debug__" : Str)) = false := by decide) :
    JE X E (.Call (.Name x p) [] [] pos) (eCall 0 f aNil) := by
  obtain ⟨a, fd, ps, hm, hkp, hb, F⟩ := c.ex
  exact ⟨_, pe_call0 F (hr.mono hk) hg hm hkp hb .nil hx hdb, s_call fun Z Fz ρ env st σ H Q rl hh o => o.here rl _ RepL.nil⟩
end
theorem renv_start {K : PySem.W.Frag} {mg : Str → Option Value} {Fz : Hp} {ρ : List Addr} {ps : List PV} {vs : List V} (N : List Str) (h : RepL K mg Fz ρ ps vs) : REnv K mg Fz ρ (env0 N.length ps) (L2.start N vs) := by
  unfold env0 L2.start
  refine ⟨by simp [h.len], fun i p e => ?_⟩
  by_cases hi : i < ps.length
  · rw [List.getElem?_append_left (by simpa using hi), List.getElem?_map] at e
    rw [List.getElem?_append_left (by simpa [← h.len] using hi), List.getElem?_map]
    cases q : ps[i]? with
    | none => rw [q] at e; cases e
    | some z =>
      rw [q] at e
      cases e
      obtain ⟨v, e1, e2⟩ := h.get q
      exact ⟨v, by rw [e1]; rfl, e2⟩
  · rw [List.getElem?_append_right (by simpa using hi)] at e
    have := List.mem_of_getElem? e
    simp [List.mem_replicate] at this
theorem fn_body {P : Program} {w : World} {K : PySem.W.Frag} {mg : Str → Option Value} {base : Heap} {x qual : Str} {params : Arguments} {body : List Stmt} {scope : Scope} {f : Addr} {fd : FuncData} {N ps : List Str} {k : Nat} {g : XS}
    (F : FunD K x qual params body scope [] [] f fd) (S : FnScope N ps scope)
    (hJ : ∀ (cdv : Value) (A : Around) (outer : List Env) (s : Shared) (H : Hp) (E : XK), Room k (A.deeper (envOfC qual scope s.heap.objs.size f cdv)) →
      JSs (cxOf (L2.CX P w) P w K mg base N qual scope f cdv A outer s H E) E body g) : FnOk P w K mg base (L2.CX P w) (k + 1) f fd ps (spF K mg ps.length (runF N.length g)) := by
  refine F.ok S (fun vs H Q E h => h.1) (fun cdv A outer s H vs Q E hr h => ?_)
  obtain ⟨t, pt, st⟩ := hJ cdv A outer s H E hr
  obtain ⟨hl, Z, Fz, ρ, sto, pvs, rl, rp, o⟩ := h
  refine ⟨t, pt, st Z Fz ρ (env0 N.length pvs) sto _ H _ rl (renv_start N rp) ?_⟩
  have o2 : Out K mg Z E Fz ρ (ret (g (env0 N.length pvs) sto)) (fun v _ Fz' ρ' H' => ∀ v', Rep K mg Fz' ρ' v v' → Q v' H') := o
  unfold ret at o2
  refine o2.seq.mono fun fl s1 F1 r1 H1 _ ex1 rl1 o1 => ?_
  cases fl with
  | rt v => exact o1.here rl1
  | nx e => exact fun σ _ => o1.here rl1 _ (by rw [Rep])
  | bk e => exact o1.elim
  | ct e => exact o1.elim
theorem cl_of {P : Program} {w : World} {K : PySem.W.Frag} {mg : Str → Option Value} {base : Heap} {k n : Nat} {x qual : Str} {params : Arguments} {body : List Stmt} {scope : Scope} {f : Addr} {fd : FuncData} {ps : List Str} {fn : Fn}
    (F : FunD K x qual params body scope [] [] f fd) (hm : mg x = some (.ref f)) (hb : Binds K fd ps []) (ok : FnOk P w K mg base (L2.CX P w) k f fd ps (spF K mg n fn)) : Cl P w K mg base k x n fn :=
  ⟨f, fd, ps, hm, F.kp, hb, ok⟩
def noX {α : Type} (r : R α) : R α := match r with
  | .ok a s => .ok a s
  | _ => .no
theorem out_noX {α : Type} {K : PySem.W.Frag} {mg : Str → Option Value} {Z : Hp} {E E' : XK} {Fz : Hp} {ρ : List Addr} {r : R α} {P : α → Store → Hp → List Addr → Hp → Prop} (h : Out K mg Z E Fz ρ (noX r) P) : Out K mg Z E' Fz ρ r P := by
  cases r with
  | ok a s => exact h
  | ex c s => exact h.elim
  | no => exact h
theorem out_E0 {α : Type} {K : PySem.W.Frag} {mg : Str → Option Value} {Z : Hp} {E' : XK} {Fz : Hp} {ρ : List Addr} {r : R α} {P : α → Store → Hp → List Addr → Hp → Prop} (h : Out K mg Z E' Fz ρ (noX r) P) : ∃ a s, r = .ok a s := by
  cases r with
  | ok a s => exact ⟨a, s, rfl⟩
  | ex c s => exact h.elim
  | no => exact h.elim
def asV (st : Store) : PV → Option (List PV)
  | .lst xs => some xs
  | .tup xs => some xs
  | .scr ns => some (ns.map PV.int)
  | .own k => (match st[k]? with
    | some (.frz xs) => some xs
    | _ => none)
  | _ => none
def ItV (K : PySem.W.Frag) (mg : Str → Option Value) (J : It) (Z F0 : Hp) (r0 : List Addr) (xs : List PV) : Prop := ∀ Z' Fz ρ st H, Ext F0 r0 Fz ρ → Rel K mg Z' Fz ρ st H →
  (∀ (i : Nat) (x : PV), xs[i]? = some x → J.go i H ∧ ∀ v H', J.yld i H v H' → ∃ Fz', Ext Fz ρ Fz' ρ ∧ Rel K mg Z' Fz' ρ st H' ∧ Rep K mg Fz' ρ x v) ∧ J.stop xs.length H
def SI (K : PySem.W.Frag) (mg : Str → Option Value) (E : XK) (wi : TI) (g : XL) : Prop := ∀ Z Fz ρ env st σ H R, Rel K mg Z Fz ρ st H → REnv K mg Fz ρ env σ →
  Out K mg Z E Fz ρ (g env st) (fun xs _ Fz' ρ' H' => ∀ J, xs.length ≤ sizeLine → ItV K mg J Z Fz' ρ' xs → R J H') → wi σ H R
def JI (X : Cx) (E : XK) (tg iter : Expr) (g : XL) : Prop := ∃ wi, PI X tg iter wi ∧ SI X.K X.mg E wi g
def iVal (f : XE) : XL := fun env st => (f env st).bind fun p s => match asV s p with
  | some xs => .ok xs s
  | none => .no
section
variable {K : PySem.W.Frag} {mg : Str → Option Value} {Z Fz : Hp} {ρ : List Addr}
theorem itv_list {a : Addr} {vs : List V} {xs : List PV} (s : SqL K Fz a vs) (r : RepL K mg Fz ρ xs vs) : ItV K mg (Itl K a) Z Fz ρ xs := fun Z' F1 r1 st H ex rl => by
  have s1 : SqL K H a vs := sqL_mono rl.fz (sqL_mono ex.fz s)
  refine ⟨fun i x e => ?_, ⟨vs, s1, by rw [← r.len]; exact Nat.le_refl _⟩⟩
  obtain ⟨v, e1, rv⟩ := r.get e
  refine ⟨⟨vs, v, s1, e1⟩, fun v' H' y => ?_⟩
  obtain ⟨rfl, y⟩ := y
  have := y vs s1
  rw [e1] at this; cases this
  exact ⟨F1, Ext.refl, rl, rv.mono ex⟩
theorem itv_tup {a : Addr} {vs : List V} {xs : List PV} (s : SqT K Fz a vs) (r : RepL K mg Fz ρ xs vs) : ItV K mg (Itt K a) Z Fz ρ xs := fun Z' F1 r1 st H ex rl => by
  have s1 : SqT K H a vs := sqT_mono rl.fz (sqT_mono ex.fz s)
  refine ⟨fun i x e => ?_, ⟨vs, s1, by rw [← r.len]; exact Nat.le_refl _⟩⟩
  obtain ⟨v, e1, rv⟩ := r.get e
  refine ⟨⟨vs, v, s1, e1⟩, fun v' H' y => ?_⟩
  obtain ⟨rfl, y⟩ := y
  have := y vs s1
  rw [e1] at this; cases this
  exact ⟨F1, Ext.refl, rl, rv.mono ex⟩
theorem asV_ok {st : Store} {H : Hp} {p : PV} {v : V} {xs : List PV} (rl : Rel K mg Z Fz ρ st H) (h : Rep K mg Fz ρ p v) (e : asV st p = some xs) : ∃ a vs, v = .ref a ∧ (SqL K Fz a vs ∨ SqT K Fz a vs) ∧ xs.length ≤ sizeLine ∧ RepL K mg Fz ρ xs vs := by
  cases p with
  | lst ys =>
    cases e
    rw [Rep] at h
    obtain ⟨a, vs, h1, h2, h3, h4⟩ := h
    exact ⟨a, vs, h1, .inl (SqL.of h2), h3, h4⟩
  | tup ys =>
    cases e
    rw [Rep] at h
    obtain ⟨a, vs, h1, h2, h3, h4⟩ := h
    exact ⟨a, vs, h1, .inr h2, h3, h4⟩
  | scr ns =>
    cases e
    rw [Rep] at h
    obtain ⟨a, h1, h2, h3⟩ := h
    exact ⟨a, _, h1, .inl h2, by simpa using h3, RepL.ints ns⟩
  | own k =>
    rw [Rep] at h
    obtain ⟨a, h1, h2⟩ := h
    cases ek : st[k]? with
    | none => simp [asV, ek] at e
    | some c =>
      cases c with
      | frz ys =>
        have : ys = xs := by simpa [asV, ek] using e
        subst this
        obtain ⟨vs, q1, q2, q3⟩ := rl.cell k a _ h1 ek
        exact ⟨a, vs, h2, .inl (SqL.of q1), q2, q3⟩
      | _ => simp [asV, ek] at e
  | _ => cases e
end
section
variable {X : Cx} {E : XK} {a b e l tg : Expr} {es : List Expr} {p pos : Pos} {fa fb : XE} {x : Str}
theorem PI.or {w1 w2 : TI} (h1 : PI X tg l w1) (h2 : PI X tg l w2) : PI X tg l (fun σ H R => w1 σ H R ∨ w2 σ H R) :=
  ⟨fun pins s σ H R I h => h.elim (fun h => h1.run pins s σ H R I h) fun h => h2.run pins s σ H R I h⟩
theorem ji_seq (h : JE X E l fa) : JI X E tg l (iVal fa) := by
  obtain ⟨t, pt, s⟩ := h
  refine ⟨fun σ H R => t σ H fun x H1 => (∃ a, x = .ref a ∧ (∃ xs, SqL X.K H1 a xs) ∧ R (Itl X.K a) H1) ∨ (∃ a, x = .ref a ∧ (∃ xs, SqT X.K H1 a xs) ∧ R (Itt X.K a) H1), ⟨fun pins sh σ H R I h => ?_⟩, fun Z Fz ρ env st σ H R rl hh o => ?_⟩
  · -- from the value on, as a list or as a tuple
    refine thn (pt.run pins sh σ H _ I h) fun u s1 w => ?_
    obtain ⟨y, G, J1, ry, c⟩ := w
    have fresh : ∀ d, d ∈ [s1.heap.objs.size] → FpOk X pins G d := fun d hd => by
      rw [List.mem_singleton] at hd
      rw [hd]
      exact J1.fpOk Nat.le.refl (J1.hok.fresh Nat.le.refl)
    rcases c with ⟨d, rfl, ⟨ws, hw⟩, k⟩ | ⟨d, rfl, ⟨ws, hw⟩, k⟩
    · obtain rfl : u = Value.ref d := ry
      obtain ⟨its, _, hp, _⟩ := J1.list hw
      exact wpAny_pyIter_list hp.isList ⟨_, [s1.heap.objs.size], _, Itl X.K d, G, rfl,
        J1.kept (t' := s1.toks) (fun b o z => Heap.get?_push_of_some _ z), turn_list d _, ⟨_, Heap.get?_push_size _ rfl, rfl, rfl⟩, fresh, k⟩
    · obtain rfl : u = Value.ref d := ry
      obtain ⟨its, _, hp, _⟩ := J1.tuple hw
      exact wpAny_pyIter_tuple (t := d) (items := its.toArray) hp ⟨_, [s1.heap.objs.size], _, Itt X.K d, G, rfl,
        J1.kept (t' := s1.toks) (fun b o z => Heap.get?_push_of_some _ z), turn_tuple d _, ⟨_, Heap.get?_push_size _ rfl, rfl, rfl⟩, fresh, k⟩
  · refine s Z Fz ρ env st σ H _ rl hh (o.seq.mono fun x s1 F1 r1 H1 _ ex1 rl1 o1 x' rx => ?_)
    split at o1
    · rename_i xs es
      obtain ⟨a, vs, rfl, sq, hl, rr⟩ := asV_ok rl1 rx es
      rcases sq with sq | sq
      · exact .inl ⟨a, rfl, ⟨vs, sqL_mono rl1.fz sq⟩, o1.here rl1 _ hl (itv_list sq rr)⟩
      · exact .inr ⟨a, rfl, ⟨vs, sqT_mono rl1.fz sq⟩, o1.here rl1 _ hl (itv_tup sq rr)⟩
    · exact o1.elim
def rng (lo : Int) (n : Nat) : List PV := (List.range n).map fun (k : Nat) => PV.int (lo + (k : Int))
theorem itv_rng {K : PySem.W.Frag} {mg : Str → Option Value} {Z Fz : Hp} {ρ : List Addr} (lo : Int) (n : Nat) : ItV K mg (Itr lo n) Z Fz ρ (rng lo n) := fun Z' F1 r1 st H ex rl => by
  refine ⟨fun i x e => ?_, (show n ≤ (rng lo n).length by simp [rng])⟩
  unfold rng at e
  rw [List.getElem?_map] at e
  by_cases h : i < n
  · rw [List.getElem?_range h] at e
    cases e
    refine ⟨h, fun v H' y => ?_⟩
    obtain ⟨rfl, rfl⟩ := y
    exact ⟨F1, Ext.refl, rl, by rw [Rep]⟩
  · rw [List.getElem?_eq_none (by simpa using h)] at e; cases e
def okR (i : Int) : Bool := decide (-(2 ^ 62) ≤ i) && decide (i < 2 ^ 62)
def iRange1 (f : XL) : XL := fun env st => (f env st).bind fun vs s => match vs with
  | [.int j] => if okR j = true ∧ j.toNat ≤ sizeLine then .ok (rng 0 j.toNat) s else .no
  | _ => .no
def iRange2 (f : XL) : XL := fun env st => (f env st).bind fun vs s => match vs with
  | [.int i, .int j] => if okR i = true ∧ okR j = true ∧ (j - i).toNat ≤ sizeLine then .ok (rng i (j - i).toNat) s else .no
  | _ => .no
theorem ji_range1 {f : XL} (ha : JA X E [a] f) (hm : X.mg "range" = none) (hg : Gl X "range" := by rfl) (hs : starEach [a] X.env = [(false, eval a X.env)] := by rfl) : JI X E tg (.Call (.Name "range" p) [a] [] pos) (iRange1 f) := by
  obtain ⟨t, pt, s⟩ := ha
  refine ⟨_, pi_range1 hg hm pt hs, fun Z Fz ρ env st σ H R rl hh o => ?_⟩
  refine s Z Fz ρ env st σ H _ rl hh (o.seq.mono fun xs s1 F1 r1 H1 hq ex1 rl1 o1 xs' rx => ?_)
  clear hq
  split at o1
  · rename_i j
    obtain ⟨v, rfl, rv⟩ := rep1 rx
    rw [Rep] at rv
    subst rv
    split at o1
    · rename_i c
      have c1 := c.1
      unfold okR at c1
      rw [Bool.and_eq_true, decide_eq_true_eq, decide_eq_true_eq] at c1
      exact ⟨j, rfl, c1.1, c1.2, o1.here rl1 _ (by simpa [rng] using c.2) (itv_rng 0 _)⟩
    · exact o1.elim
  · exact o1.elim
theorem rep2 {K : PySem.W.Frag} {mg : Str → Option Value} {Fz : Hp} {ρ : List Addr} {p q : PV} {vs : List V} (h : RepL K mg Fz ρ [p, q] vs) : ∃ v u, vs = [v, u] ∧ Rep K mg Fz ρ p v ∧ Rep K mg Fz ρ q u := by
  rw [RepL] at h
  obtain ⟨v, r, rfl, h1, h2⟩ := h
  obtain ⟨u, rfl, h3⟩ := rep1 h2
  exact ⟨v, u, rfl, h1, h3⟩
def pairs : List PV → List PV → List PV
  | x :: xs, y :: ys => .tup [x, y] :: pairs xs ys
  | _, _ => []
def asVL (st : Store) : PV → Option (List PV)
  | .tup _ => none
  | p => asV st p
def nums (xs : List PV) : List PV := pairs (rng 0 xs.length) xs
def signs (z : Str) : List PV := z.cps.toList.map fun c => PV.str ⟨#[c]⟩
end
end Lq
end
section
set_option Elab.async false
set_option linter.all false
set_option maxRecDepth 10000
namespace Lq
open PySem PySem.Spec PyProof.Rows L2
section
variable (K : PySem.W.Frag) (mg : Str → Option Value) (E : XK)
def tOf (f : XE) : TE := fun σ H Q => ∃ Z Fz ρ env st, Rel K mg Z Fz ρ st H ∧ REnv K mg Fz ρ env σ ∧ Out K mg Z E Fz ρ (f env st) (fun v _ Fz' ρ' H' => ∀ v', Rep K mg Fz' ρ' v v' → Q v' H')
def tOfT (f : Ev → Store → R Bool) : TT := fun σ H Q => ∃ Z Fz ρ env st, Rel K mg Z Fz ρ st H ∧ REnv K mg Fz ρ env σ ∧ Out K mg Z E Fz ρ (f env st) (fun b _ _ _ H' => Q b H')
def tOfI (g : XL) : TI := fun σ H R => ∃ Z Fz ρ env st, Rel K mg Z Fz ρ st H ∧ REnv K mg Fz ρ env σ ∧ Out K mg Z E Fz ρ (g env st) (fun xs _ Fz' ρ' H' => ∀ J, xs.length ≤ sizeLine → ItV K mg J Z Fz' ρ' xs → R J H')
def SGv (vs : List Nat) (t : TG) (f : PV → Ev → Store → R Ev) : Prop := ∀ Z Fz ρ env st σ H p v Q, Rel K mg Z Fz ρ st H → REnv K mg Fz ρ env σ → Rep K mg Fz ρ p v →
  Out K mg Z E Fz ρ (f p env st) (fun e _ Fz' ρ' H' => ∀ σ' : L2.St, REnv K mg Fz' ρ' e σ' → (σ'.length = σ.length ∧ ∀ j : Nat, j ∉ vs → σ'[j]? = σ[j]?) → Q σ' H') → t v σ H Q
def tOfG (vs : List Nat) (f : PV → Ev → Store → R Ev) : TG := fun v σ H Q => ∃ Z Fz ρ env st p, Rel K mg Z Fz ρ st H ∧ REnv K mg Fz ρ env σ ∧ Rep K mg Fz ρ p v ∧
  Out K mg Z E Fz ρ (f p env st) (fun e _ Fz' ρ' H' => ∀ σ' : L2.St, REnv K mg Fz' ρ' e σ' → (σ'.length = σ.length ∧ ∀ j : Nat, j ∉ vs → σ'[j]? = σ[j]?) → Q σ' H')
end
def JGv (X : Cx) (E : XK) (vs : List Nat) (e : Expr) (f : PV → Ev → Store → R Ev) : Prop := ∃ t, PG X e t ∧ SGv X.K X.mg E vs t f
def JTs (X : Cx) (E : XK) (es : List Expr) (f : Ev → Store → R Bool) : Prop := ∃ t, PTs X es t ∧ STt X.K X.mg E t f
section
variable {X : Cx} {E : XK}
theorem JE.pe {e : Expr} {f : XE} (h : JE X E e f) : PE X e (tOf X.K X.mg E f) := by
  obtain ⟨t, p, s⟩ := h
  exact ⟨fun pins sh σ H Q I ⟨Z, Fz, ρ, env, st, rl, re, o⟩ => p.run pins sh σ H Q I (s Z Fz ρ env st σ H Q rl re o)⟩
theorem JTs.pe {e : List Expr} {f} (h : JTs X E e f) : PTs X e (tOfT X.K X.mg E f) := by
  obtain ⟨t, p, s⟩ := h
  exact ⟨fun pins sh σ H Q I ⟨Z, Fz, ρ, env, st, rl, re, o⟩ => p.run pins sh σ H Q I (s Z Fz ρ env st σ H Q rl re o)⟩
theorem JI.pe {tg e : Expr} {f} (h : JI X E tg e f) : PI X tg e (tOfI X.K X.mg E f) := by
  obtain ⟨t, p, s⟩ := h
  exact ⟨fun pins sh σ H Q I ⟨Z, Fz, ρ, env, st, rl, re, o⟩ => p.run pins sh σ H Q I (s Z Fz ρ env st σ H Q rl re o)⟩
theorem JGv.pe {e : Expr} {vs : List Nat} {f} (h : JGv X E vs e f) : PG X e (tOfG X.K X.mg E vs f) := by
  obtain ⟨t, p, s⟩ := h
  exact ⟨fun pins sh σ H v u Q I r ⟨Z, Fz, ρ, env, st, q, rl, re, rv, o⟩ => p.run pins sh σ H v u Q I r (s Z Fz ρ env st σ H q v Q rl re rv o)⟩
theorem jts_nil : JTs X E [] (fun _ st => .ok true st) := ⟨_, pts_nil, fun Z Fz ρ env st σ H Q rl hh o => o.here rl⟩
theorem jts_one {c : Expr} {f} (h : JT X E c f) : JTs X E [c] f := let ⟨t, p, s⟩ := h; ⟨t, pts_one p, s⟩
end
section
variable {K : PySem.W.Frag} {mg : Str → Option Value} {Fz : Hp} {ρ : List Addr}
theorem REnv.set {env : Ev} {σ : L2.St} {p : PV} {v : V} (h : REnv K mg Fz ρ env σ) (r : Rep K mg Fz ρ p v) (i : Nat) : REnv K mg Fz ρ (env.set i (some p)) (σ.set i (some v)) := by
  refine ⟨by simp [h.1], fun j q e => ?_⟩
  by_cases hj : i = j
  · subst hj
    have hi : i < env.length := by
      have := (List.getElem?_eq_some_iff.mp e).1
      simpa using this
    rw [List.getElem?_set_self hi] at e
    cases e
    exact ⟨v, by rw [List.getElem?_set_self (by rw [← h.1]; exact hi)], r⟩
  · rw [List.getElem?_set_ne hj] at e ⊢
    exact h.2 j q e
def wipeE (env : Ev) : List Nat → Ev
  | [] => env
  | v :: vs => (wipeE env vs).set v none
theorem REnv.wipe {env : Ev} {σ : L2.St} (h : REnv K mg Fz ρ env σ) : ∀ vs : List Nat, REnv K mg Fz ρ (wipeE env vs) (L2.wipe σ vs)
  | [] => h
  | v :: vs => by
    obtain ⟨h1, h2⟩ := REnv.wipe h vs
    unfold wipeE L2.wipe
    refine ⟨by simp [h1], fun j q e => ?_⟩
    by_cases hj : v = j
    · subst hj
      have hi : v < (wipeE env vs).length := by
        have := (List.getElem?_eq_some_iff.mp e).1
        simpa using this
      rw [List.getElem?_set_self hi] at e
      cases e
    · rw [List.getElem?_set_ne hj] at e ⊢
      exact h2 j q e
end
theorem wipe_get (σ : L2.St) : ∀ (vs : List Nat) (j : Nat), (L2.wipe σ vs)[j]? = if j ∈ vs then (if j < σ.length then some none else none) else σ[j]?
  | [], j => by simp [L2.wipe]
  | v :: vs, j => by
    unfold L2.wipe
    by_cases hv : v = j
    · subst hv
      by_cases hl : v < σ.length
      · rw [List.getElem?_set_self (by rw [L2.wipe_length]; exact hl)]; simp [hl]
      · rw [List.getElem?_eq_none (by simp [L2.wipe_length]; omega)]; simp [hl]
    · rw [List.getElem?_set_ne hv, wipe_get σ vs j]
      have : (j ∈ v :: vs) ↔ j ∈ vs := by simp [Ne.symm hv]
      simp only [this]
theorem wipe_eq {σ σ' : L2.St} {vs : List Nat} (hl : σ'.length = σ.length) (h : ∀ j, j ∉ vs → σ'[j]? = (L2.wipe σ vs)[j]?) : L2.wipe σ' vs = L2.wipe σ vs := by
  refine List.ext_getElem? fun j => ?_
  rw [wipe_get, wipe_get, hl]
  by_cases hj : j ∈ vs
  · simp [hj]
  · simp only [hj, if_false]
    rw [h j hj, wipe_get]; simp [hj]
def gNm (i : Nat) : PV → Ev → Store → R Ev := fun p env st => .ok (env.set i (some p)) st
def gTp (n : Nat) (gs : List PV → Ev → Store → R Ev) : PV → Ev → Store → R Ev := fun p env st => match p with
  | .tup xs => if xs.length = n then gs xs env st else .no
  | _ => .no
def gsNil : List PV → Ev → Store → R Ev := fun xs env st => match xs with
  | [] => .ok env st
  | _ => .no
def gsCons (g : PV → Ev → Store → R Ev) (gs : List PV → Ev → Store → R Ev) : List PV → Ev → Store → R Ev := fun xs env st => match xs with
  | x :: r => (g x env st).bind fun e s => gs r e s
  | [] => .no
def SGsv (K : PySem.W.Frag) (mg : Str → Option Value) (E : XK) (vs : List Nat) (t : TGs) (f : List PV → Ev → Store → R Ev) : Prop := ∀ Z Fz ρ env st σ H p v Q, Rel K mg Z Fz ρ st H → REnv K mg Fz ρ env σ → RepL K mg Fz ρ p v →
  Out K mg Z E Fz ρ (f p env st) (fun e _ Fz' ρ' H' => ∀ σ' : L2.St, REnv K mg Fz' ρ' e σ' → (σ'.length = σ.length ∧ ∀ j : Nat, j ∉ vs → σ'[j]? = σ[j]?) → Q σ' H') → t v σ H Q
def JGsv (X : Cx) (E : XK) (vs : List Nat) (es : List Expr) (f : List PV → Ev → Store → R Ev) : Prop := ∃ t, PGs X es t ∧ SGsv X.K X.mg E vs t f
section
variable {X : Cx} {E : XK} {e : Expr} {es : List Expr} {pos : Pos} {vs ws : List Nat}
theorem jg_name {i : Nat} {x : Str} (hN : X.N.Nodup) (hv : i ∈ vs := by decide) (hi : X.N[i]? = some x := by rfl) (hx : Loc X.env.scope x := by first | exact .inl rfl | exact .inr rfl)
    (hf : X.fn x = true ∨ X.env.scope.names.lookup x = some .local := by first | exact .inl rfl | exact .inr rfl | assumption) : JGv X E vs (.Name x pos) (gNm i) :=
  ⟨_, pg_name hN hi hx hf, fun Z Fz ρ env st σ H p v Q rl re rv o => o.here rl _ (re.set rv i) ⟨by simp, fun j hj => List.getElem?_set_ne fun z => hj (by rw [← z]; exact hv)⟩⟩
theorem jgs_nil : JGsv X E vs [] gsNil := ⟨_, pgs_nil, fun Z Fz ρ env st σ H p v Q rl re rv o => by
  cases p with
  | nil =>
    rw [RepL] at rv
    subst rv
    exact ⟨rfl, o.here rl σ re ⟨rfl, fun _ _ => rfl⟩⟩
  | cons => exact o.elim⟩
theorem jgs_cons {f fs} (h1 : JGv X E vs e f) (h2 : JGsv X E vs es fs) (hs : (assignEach (e :: es) X.env).map (·.2) = assign e X.env :: (assignEach es X.env).map (·.2) := by rfl) : JGsv X E vs (e :: es) (gsCons f fs) := by
  obtain ⟨t, p, s⟩ := h1
  obtain ⟨t', p', s'⟩ := h2
  refine ⟨_, pgs_cons p p' hs, fun Z Fz ρ env st σ H q v Q rl re rv o => ?_⟩
  cases q with
  | nil => exact o.elim
  | cons x r =>
    rw [RepL] at rv
    obtain ⟨v1, vr, rfl, r1, r2⟩ := rv
    refine ⟨v1, vr, rfl, s Z Fz ρ env st σ H x v1 _ rl re r1 ?_⟩
    have o' : Out X.K X.mg Z E Fz ρ ((f x env st).bind fun e s => fs r e s) _ := o
    refine o'.seq.mono fun e1 s1 F1 rr1 H1 _ ex1 rl1 o1 σ1 re1 k1 => ?_
    exact s' Z F1 rr1 e1 s1 σ1 H1 r vr Q rl1 re1 (r2.mono ex1) (o1.mono fun e2 s2 F2 rr2 H2 _ ex2 rl2 o2 σ2 re2 k2 => o2 σ2 re2 ⟨k2.1.trans k1.1, fun j hj => (k2.2 j hj).trans (k1.2 j hj)⟩)
theorem jg_tup {k : Nat} {fs} {n : Nat} (hc : X.calm = true) (h : JGsv X E vs es fs) (hn : (assignEach es X.env).length = n := by rfl) (hst : (assignEach es X.env).findIdx? (·.1) = none := by rfl) : JGv X E vs (.Tuple es k pos) (gTp n fs) := by
  obtain ⟨t, p, s⟩ := h
  refine ⟨_, pg_tup hc p hn hst, fun Z Fz ρ env st σ H q v Q rl re rv o => ?_⟩
  cases q with
  | tup xs =>
    rw [Rep] at rv
    obtain ⟨a, ws, rfl, r1, r2, r3⟩ := rv
    have o' : Out X.K X.mg Z E Fz ρ (if xs.length = n then fs xs env st else .no) _ := o
    split at o'
    · rename_i hl
      exact ⟨a, ws, rfl, sqT_mono rl.fz r1, by rw [← r3.len]; exact hl, s Z Fz ρ env st σ H xs ws Q rl re r3 o'⟩
    · exact o'.elim
  | _ => exact o.elim
def compV (ft : PV → Ev → Store → R Ev) (tt : Ev → Store → R Bool) (fe : XE) (env : Ev) : List PV → Store → R (List PV)
  | [], st => .ok [] st
  | x :: xs, st => (ft x env st).bind fun e s1 => (tt e s1).bind fun b s2 =>
    if b = true then (fe e s2).bind fun y s3 => (compV ft tt fe env xs s3).bind fun ys s4 => .ok (y :: ys) s4 else compV ft tt fe env xs s2
def fComp (g : XL) (ft : PV → Ev → Store → R Ev) (tt : Ev → Store → R Bool) (fe : XE) (vs : List Nat) : XL := fun env st => (g env st).bind fun xs s => noX (compV ft tt fe (wipeE env vs) xs s)
theorem bind_ok {α β : Type} {r : R α} {k : α → Store → R β} {b : β} {s : Store} (h : r.bind k = .ok b s) : ∃ a s1, r = .ok a s1 ∧ k a s1 = .ok b s := by
  cases r with
  | ok a s1 => exact ⟨a, s1, rfl, h⟩
  | ex c s1 => cases h
  | no => cases h
theorem zwrite {K : PySem.W.Frag} {mg : Str → Option Value} {Z Fz : Hp} {ρ : List Addr} {st : Store} {H : Hp} {D : Addr} {o o' : HO} (rl : Rel K mg (upd Z D o) Fz ρ st H) : Rel K mg (upd Z D o') Fz ρ st (upd H D o') := by
  obtain ⟨d1, d2, d3⟩ := rl.zf D o upd_same
  refine ⟨fun a u e => ?_, fun a u e => ?_, rl.len, fun k a x e1 e2 => ?_, rl.apart, rl.nd⟩
  · by_cases h : a = D
    · subst h; rw [upd_same] at e ⊢; exact ⟨e, d2, d3⟩
    · rw [upd_ne h] at e ⊢
      exact rl.zf a u (by rw [upd_ne h]; exact e)
  · rw [upd_ne (fun z => by subst z; rw [d2] at e; cases e)]; exact rl.fz _ _ e
  · exact (rl.cell k a x e1 e2).mono Ext.refl fun u q => by rw [upd_ne (fun z => by subst z; exact d3 (List.mem_of_getElem? e1))]; exact q
theorem znew {K : PySem.W.Frag} {mg : Str → Option Value} {Z Fz : Hp} {ρ : List Addr} {st : Store} {H : Hp} {D : Addr} (rl : Rel K mg Z Fz ρ st H) (hD : H D = none) (o : HO) : Rel K mg (upd Z D o) Fz ρ st (upd H D o) := by
  obtain ⟨d2, d3⟩ := rl.free hD
  refine ⟨fun a u e => ?_, fun a u e => ?_, rl.len, fun k a x e1 e2 => ?_, rl.apart, rl.nd⟩
  · by_cases h : a = D
    · subst h; rw [upd_same] at e ⊢; exact ⟨e, d2, d3⟩
    · rw [upd_ne h] at e ⊢
      exact rl.zf a u e
  · rw [upd_ne (fun z => by subst z; rw [d2] at e; cases e)]; exact rl.fz _ _ e
  · exact (rl.cell k a x e1 e2).mono Ext.refl fun u q => by rw [upd_ne (fun z => by subst z; exact d3 (List.mem_of_getElem? e1))]; exact q
def off (H : Hp) (D : Addr) : Hp := fun b => if b = D then none else H b
theorem off_same {H : Hp} {D : Addr} : off H D D = none := by unfold off; rw [if_pos rfl]
theorem off_ne {H : Hp} {D b : Addr} (h : b ≠ D) : off H D b = H b := by unfold off; rw [if_neg h]
theorem off_upd {H : Hp} {D : Addr} {o : HO} (h : H D = some o) : upd (off H D) D o = H := by
  funext b
  by_cases hb : b = D
  · subst hb; rw [upd_same, h]
  · rw [upd_ne hb, off_ne hb]
theorem zoff {K : PySem.W.Frag} {mg : Str → Option Value} {Z Fz : Hp} {ρ : List Addr} {st : Store} {H : Hp} {D : Addr} {o : HO} (rl : Rel K mg (upd Z D o) Fz ρ st H) (hZ : Z D = none) : Rel K mg Z Fz ρ st (off H D) := by
  obtain ⟨d1, d2, d3⟩ := rl.zf D o upd_same
  refine ⟨fun a u e => ?_, fun a u e => ?_, rl.len, fun k a x e1 e2 => ?_, rl.apart, rl.nd⟩
  · have h : a ≠ D := fun z => by subst z; rw [hZ] at e; cases e
    rw [off_ne h]
    exact rl.zf a u (by rw [upd_ne h]; exact e)
  · rw [off_ne (fun z => by subst z; rw [d2] at e; cases e)]; exact rl.fz _ _ e
  · exact (rl.cell k a x e1 e2).mono Ext.refl fun u q => by rw [off_ne (fun z => by subst z; exact d3 (List.mem_of_getElem? e1))]; exact q
section
variable {K : PySem.W.Frag} {mg : Str → Option Value}
theorem lc_read {E : XK} {wi : TI} {g : XL} {ft : PV → Ev → Store → R Ev} {tt : Ev → Store → R Bool} {fe : XE} {vs : List Nat} (sw : SI K mg E wi g) :
    SF K mg E (tLc wi (tOfG K mg E0 vs ft) (tOfT K mg E0 tt) (tOf K mg E0 fe) vs) (fComp g ft tt fe vs) := fun Z Fz ρ env st σ H Q rl re o => by
  refine sw Z Fz ρ env st σ H _ rl re (o.seq.mono fun xs s1 F1 r1 H1 _ ex1 rl1 o1 J hlen it D hD => ?_)
  obtain ⟨ys, sf, ec⟩ := out_E0 o1
  have o2 : Out K mg Z E F1 r1 (noX (compV ft tt fe (wipeE env vs) xs s1)) _ := o1
  rw [ec] at o2
  have hZD : Z D = none := by
    cases e : Z D with
    | none => rfl
    | some u => rw [(rl1.zf D u e).1] at hD; cases hD
  refine ⟨fun i m H => m = xs.length - i ∧ i ≤ xs.length ∧ ∃ (acc : List PV) (accv : List V) (F : Hp) (r : List Addr) (s : Store) (rest : List PV),
    Ext F1 r1 F r ∧ Rel K mg (upd Z D (.lst accv)) F r s H ∧ RepL K mg F r acc accv ∧ acc.length ≤ i ∧ compV ft tt fe (wipeE env vs) (xs.drop i) s = .ok rest sf ∧ acc ++ rest = ys, ?_, ?_⟩
  · exact ⟨_, rfl, Nat.zero_le _, [], [], F1, r1, s1, ys, Ext.refl, znew rl1 hD _, RepL.nil, Nat.le_refl _, by simpa using ec, rfl⟩
  · rintro i m H2 ⟨rfl, hi, acc, accv, F, r, s, rest, ex, rl2, ra, hacc, eq, hy⟩
    obtain ⟨ig, is⟩ := it (upd Z D (.lst accv)) F r s H2 ex rl2
    by_cases hlt : i < xs.length
    · right
      have ed : xs.drop i = xs[i] :: xs.drop (i + 1) := List.drop_eq_getElem_cons hlt
      obtain ⟨go, yl⟩ := ig i xs[i] (by simp [hlt])
      refine ⟨go, fun H' => ∃ (acc : List PV) (accv : List V) (F : Hp) (r : List Addr) (s : Store) (rest : List PV),
        Ext F1 r1 F r ∧ Rel K mg (upd Z D (.lst accv)) F r s H' ∧ RepL K mg F r acc accv ∧ acc.length ≤ i + 1 ∧ compV ft tt fe (wipeE env vs) (xs.drop (i + 1)) s = .ok rest sf ∧ acc ++ rest = ys,
        fun H' h => ⟨xs.length - (i + 1), by omega, rfl, hlt, h⟩, fun x H' y => ?_⟩
      obtain ⟨F3, ex3, rl3, rx⟩ := yl x H' y
      rw [ed] at eq
      unfold compV at eq
      obtain ⟨e1, t1, q1, eq⟩ := bind_ok eq
      obtain ⟨b, t2, q2, eq⟩ := bind_ok eq
      refine ⟨_, F3, r, wipeE env vs, s, xs[i], rl3, ((re.mono ex1).mono (ex.trans ex3)).wipe vs, rx, ?_⟩
      rw [q1]
      intro F4 r4 H4 ex4 rl4 σ4 re4 k4
      have hl4 : σ4.length = σ.length := by rw [k4.1, L2.wipe_length]
      refine ⟨wipe_eq hl4 k4.2, _, F4, r4, e1, t1, rl4, re4, ?_⟩
      rw [q2]
      intro F5 r5 H5 ex5 rl5
      cases b with
      | true =>
        rw [if_pos rfl] at eq ⊢
        obtain ⟨y', t3, q3, eq⟩ := bind_ok eq
        obtain ⟨zs, t4, q4, eq⟩ := bind_ok eq
        cases eq
        refine ⟨_, F5, r5, e1, t2, rl5, re4.mono ex5, ?_⟩
        rw [q3]
        intro F6 r6 H6 ex6 rl6 v6 rv6
        refine ⟨accv, (rl6.zf D _ upd_same).1, ?_, acc ++ [y'], accv ++ [v6], F6, r6, t3, zs, ?_, zwrite rl6, ?_, ?_, q4, ?_⟩
        · have : acc.length = accv.length := ra.len
          rw [← this]; omega
        · exact ex.trans (ex3.trans (ex4.trans (ex5.trans ex6)))
        · exact (ra.mono (ex3.trans (ex4.trans (ex5.trans ex6)))).app (RepL.cons rv6 RepL.nil)
        · simp; omega
        · rw [← hy]; simp
      | false =>
        rw [if_neg Bool.false_ne_true] at eq ⊢
        exact ⟨acc, accv, F5, r5, t2, rest, ex.trans (ex3.trans (ex4.trans ex5)), rl5, ra.mono (ex3.trans (ex4.trans ex5)), by omega, eq, hy⟩
    · left
      have hi' : i = xs.length := by omega
      subst hi'
      refine ⟨is, ?_⟩
      rw [List.drop_length] at eq
      cases eq
      rw [List.append_nil] at hy
      subst hy
      obtain ⟨d1, d2, d3⟩ := rl2.zf D _ upd_same
      have z := o2 F r (off H2 D) ex (zoff rl2 hZD) D accv off_same (by omega) ra
      rw [off_upd d1] at z
      exact z
end
abbrev Blk (X : Cx) (scope : Scope) (p : Cx → Prop) : Prop := ∀ (s : Shared) (H : Hp) (C : Addr) (cl : List (Str × Addr)) (fp : List Addr), p (X.blk s H scope (compEnvC scope cl C X.env) fp)
variable {elt tg iter tg1 iter1 : Expr} {ifs ifs1 : List Expr} {scope : Scope} {own : List (Str × Nat)} {g g1 : XL} {ft ft1 : PV → Ev → Store → R Ev} {tt tt1 : Ev → Store → R Bool} {fe : XE}
theorem jf_lc (hc : X.calm = true) (hN : X.N.Nodup) (ok : BlkOk X.N X.env.scope scope own) (hi : JI X E tg iter g)
    (hg : Blk X scope fun Y => JGv Y E0 (own.map (·.2)) tg ft) (ht : Blk X scope fun Y => JTs Y E0 ifs tt) (he : Blk X scope fun Y => JE Y E0 elt fe)
    (hs : ∀ x, foldedSetIterable iter X.env x = pure x := by intro _; rfl) : JF X E (.ListComp elt [⟨tg, iter, ifs, 0⟩] scope pos) (fComp g ft tt fe (own.map (·.2))) := by
  obtain ⟨wi, pw, sw⟩ := hi
  exact ⟨_, pe_lc hc hN pw ok (fun s H C cl fp => (hg s H C cl fp).pe) (fun s H C cl fp => (ht s H C cl fp).pe) (fun s H C cl fp => (he s H C cl fp).pe) hs, lc_read sw⟩
end
end Lq
end
section
set_option Elab.async false
set_option linter.all false
set_option maxRecDepth 10000
namespace Lq
open PySem PySem.Spec PyProof.Rows L2
def sNil : XS := fun env st => .ok (.nx env) st
def sSeq (a b : XS) : XS := fun env st => (a env st).bind fun fl s => match fl with
  | .nx e => b e s
  | fl => .ok fl s
def sSet (i : Nat) (f : XE) : XS := fun env st => (f env st).bind fun v s => .ok (.nx (env.set i (some v))) s
def sAsg (f : XE) (g : PV → Ev → Store → R Ev) : XS := fun env st => (f env st).bind fun v s => (g v env s).bind fun e s2 => .ok (.nx e) s2
def sPar (i j : Nat) (f : XL) : XS := fun env st => (f env st).bind fun vs s => match vs with
  | [v, w] => .ok (.nx ((env.set i (some v)).set j (some w))) s
  | _ => .no
def sDrop (f : XE) : XS := fun env st => (f env st).bind fun _ s => .ok (.nx env) s
def sRet (f : XE) : XS := fun env st => (f env st).bind fun v s => .ok (.rt v) s
def sIf (c : Ev → Store → R Bool) (a b : XS) : XS := fun env st => (c env st).bind fun k s => if k = true then a env s else b env s
def loopV (ft : PV → Ev → Store → R Ev) (body : XS) : List PV → Ev → Store → R Fl
  | [], env, st => .ok (.nx env) st
  | x :: xs, env, st => (ft x env st).bind fun e s1 => (body e s1).bind fun fl s2 => match fl with
    | .nx e2 => loopV ft body xs e2 s2
    | .ct e2 => loopV ft body xs e2 s2
    | .bk e2 => .ok (.nx e2) s2
    | .rt v => .ok (.rt v) s2
def sFor (g : XL) (ft : PV → Ev → Store → R Ev) (body : XS) : XS := fun env st => (g env st).bind fun xs s => loopV ft body xs env s
section
variable {X : Cx} {E : XK} {a b e tg iter : Expr} {es : List Expr} {p pos : Pos} {fa fb : XE} {st : Stmt} {sts : List Stmt} {A B : XS}
theorem jss_nil : JSs X E [] sNil := ⟨_, pss_nil, fun Z Fz ρ env st σ H D rl re o => o.here rl σ re⟩
theorem ss_seq {t u : TS} (h1 : SS X.K X.mg E t A) (h2 : SS X.K X.mg E u B) : SS X.K X.mg E (tSeq t u) (sSeq A B) := fun Z Fz ρ env st σ H D rl re o => by
  refine h1 Z Fz ρ env st σ H _ rl re (o.seq.mono fun fl s1 F1 r1 H1 _ ex1 rl1 o1 => ?_)
  cases fl with
  | nx e => exact fun σ1 re1 => h2 Z F1 r1 e s1 σ1 H1 D rl1 re1 o1
  | rt v => exact o1.here rl1
  | bk e => exact o1.here rl1
  | ct e => exact o1.here rl1
theorem jss_cons (h1 : JS X E st A) (h2 : JSs X E sts B) : JSs X E (st :: sts) (sSeq A B) := by
  obtain ⟨t, p, s⟩ := h1
  obtain ⟨t', p', s'⟩ := h2
  exact ⟨_, pss_cons p p', ss_seq s s'⟩
theorem jss_one (h : JS X E st A) : JSs X E [st] A := let ⟨t, p, s⟩ := h; ⟨t, pss_one p, s⟩
theorem ss_set {te : TE} {f : XE} {i : Nat} (s : SE X.K X.mg E te f) : SS X.K X.mg E (tAsg te (gName i)) (sSet i f) := fun Z Fz ρ env st σ H D rl re o =>
  s Z Fz ρ env st σ H _ rl re (o.seq.mono fun v s1 F1 r1 H1 _ ex1 rl1 o1 v' rv => o1.here rl1 _ ((re.mono ex1).set rv i))
theorem js_set (i : Nat) {x : Str} {pos' : Pos} (hN : X.N.Nodup) (he : JE X E e fa) (hs : swapsWith e (some (.Name x pos')) pos.line X.env = pure false := by rfl) (hi : X.N[i]? = some x := by rfl) (hx : Loc X.env.scope x := by first | exact .inl rfl | exact .inr rfl)
    (hf : X.fn x = true ∨ X.env.scope.names.lookup x = some .local := by first | exact .inl rfl | exact .inr rfl | assumption) : JS X E (.Assign [.Name x pos'] e pos) (sSet i fa) := by
  obtain ⟨t, p, s⟩ := he
  exact ⟨_, ps_set hN hi hx p hs hf, ss_set s⟩
theorem js_asg {f : PV → Ev → Store → R Ev} {vs : List Nat} (he : JE X E e fa) (hg : JGv X E vs tg f) (hs : swapsWithSole [tg] e pos.line X.env = pure false := by rfl) (hw : swappedStores [tg] e X.env = pure none := by rfl)
    (h1 : (assignEach [tg] X.env).map (·.2) = [assign tg X.env] := by rfl) : JS X E (.Assign [tg] e pos) (sAsg fa f) := by
  obtain ⟨t, p, s⟩ := he
  obtain ⟨t', p', s'⟩ := hg
  refine ⟨_, ps_asg p p' hs hw h1, fun Z Fz ρ env st σ H D rl re o => ?_⟩
  refine s Z Fz ρ env st σ H _ rl re (o.seq.mono fun v s1 F1 r1 H1 _ ex1 rl1 o1 v' rv => ?_)
  exact s' Z F1 r1 env s1 σ H1 v v' _ rl1 (re.mono ex1) rv (o1.seq.mono fun e2 s2 F2 r2 H2 _ ex2 rl2 o2 σ2 re2 _ => o2.here rl2 σ2 re2)
theorem js_par {i j : Nat} {x y : Str} {f : XL} {px py pt : Pos} {kt k2 pt2} (hc : X.calm = true) (hN : X.N.Nodup) (ha : JA X E [a, b] f) (hi : X.N[i]? = some x := by rfl) (hj : X.N[j]? = some y := by rfl) (hij : i ≠ j := by decide)
    (hx : X.env.scope.names.lookup x = some .local := by rfl) (hy : X.env.scope.names.lookup y = some .local := by rfl)
    (hw : swappedStores [.Tuple [.Name x px, .Name y py] kt pt] (.Tuple [a, b] k2 pt2) X.env = pure (some [x, y]) := by rfl)
    (hs : swapsWithSole [.Tuple [.Name x px, .Name y py] kt pt] (.Tuple [a, b] k2 pt2) pos.line X.env = pure false := by rfl) :
    JS X E (.Assign [.Tuple [.Name x px, .Name y py] kt pt] (.Tuple [a, b] k2 pt2) pos) (sPar i j f) := by
  obtain ⟨t, p, s⟩ := ha
  refine ⟨_, ps_par hc hN hi hj hij hx hy p hw hs, fun Z Fz ρ env st σ H D rl re o => ?_⟩
  refine s Z Fz ρ env st σ H _ rl re (o.seq.mono fun vs s1 F1 r1 H1 hq ex1 rl1 o1 vs' rv => ?_)
  clear hq
  split at o1
  · obtain ⟨v, u, rfl, r1, r2⟩ := rep2 rv
    exact ⟨v, u, rfl, o1.here rl1 _ (((re.mono ex1).set r1 i).set r2 j)⟩
  · exact o1.elim
theorem js_expr (he : JE X E e fa) (hs : swapsWith e none pos.line X.env = pure false := by rfl) : JS X E (.Expr e pos) (sDrop fa) := by
  obtain ⟨t, p, s⟩ := he
  exact ⟨_, ps_expr p hs, fun Z Fz ρ env st σ H D rl re o => s Z Fz ρ env st σ H _ rl re (o.seq.mono fun v s1 F1 r1 H1 _ ex1 rl1 o1 v' rv => o1.here rl1 σ (re.mono ex1))⟩
theorem js_ret (he : JE X E e fa) : JS X E (.Return (some e) pos) (sRet fa) := by
  obtain ⟨t, p, s⟩ := he
  exact ⟨_, ps_ret p, fun Z Fz ρ env st σ H D rl re o => s Z Fz ρ env st σ H _ rl re (o.seq.mono fun v s1 F1 r1 H1 _ ex1 rl1 o1 v' rv => o1.here rl1 v' rv)⟩
theorem js_if {c : Expr} {x y : List Stmt} {fc} (hc : JT X E c fc) (ha : JSs X E x A) (hb : JSs X E y B) : JS X E (.If c x y pos) (sIf fc A B) := by
  obtain ⟨t, p, s⟩ := hc
  obtain ⟨ta, pa, sa⟩ := ha
  obtain ⟨tb, pb, sb⟩ := hb
  refine ⟨_, ps_if p pa pb, fun Z Fz ρ env st σ H D rl re o => ?_⟩
  refine s Z Fz ρ env st σ H _ rl re (o.seq.mono fun k s1 F1 r1 H1 _ ex1 rl1 o1 => ?_)
  cases k with
  | true => exact sa Z F1 r1 env s1 σ H1 D rl1 (re.mono ex1) o1
  | false => exact sb Z F1 r1 env s1 σ H1 D rl1 (re.mono ex1) o1
theorem js_for {g : XL} {ft : PV → Ev → Store → R Ev} {vs : List Nat} {body : List Stmt} (hp : PassesOwn (model X.prog X.w) X.A X.env X.xe) (hc : X.calm = true) (hi : JI X E tg iter g) (hg : JGv X E vs tg ft) (hb : JSs X E body B)
    (hs : ∀ x, foldedSetIterable iter X.env x = pure x := by intro _; rfl) : JS X E (.For tg iter body [] pos) (sFor g ft B) := by
  obtain ⟨wi, pw, sw⟩ := hi
  obtain ⟨t, p, s⟩ := hg
  obtain ⟨tb, pb, sb⟩ := hb
  refine ⟨_, ps_for hp hc pw p pb hs, fun Z Fz ρ env st σ H D rl re o => ?_⟩
  refine sw Z Fz ρ env st σ H _ rl re (o.seq.mono fun xs s1 F1 r1 H1 _ ex1 rl1 o1 J hlen it => ?_)
  refine ⟨fun i m σ H => m = xs.length - i ∧ i ≤ xs.length ∧ ∃ F r e s, Ext F1 r1 F r ∧ Rel X.K X.mg Z F r s H ∧ REnv X.K X.mg F r e σ ∧ Out X.K X.mg Z E F r (loopV ft B (xs.drop i) e s) (fun fl _ F' r' H' => FlP X.K X.mg D fl F' r' H'), ?_, ?_⟩
  · exact ⟨_, rfl, Nat.zero_le _, F1, r1, env, s1, Ext.refl, rl1, re.mono ex1, by simpa using o1⟩
  · rintro i m σ2 H2 ⟨rfl, hi, F, r, e2, s2, ex2, rl2, re2, o2⟩
    obtain ⟨ig, is⟩ := it Z F r s2 H2 ex2 rl2
    by_cases hlt : i < xs.length
    · right
      have ed : xs.drop i = xs[i] :: xs.drop (i + 1) := List.drop_eq_getElem_cons hlt
      rw [ed] at o2
      unfold loopV at o2
      obtain ⟨go, yl⟩ := ig i xs[i] (by simp [hlt])
      refine ⟨go, fun σ H => ∃ F r e s, Ext F1 r1 F r ∧ Rel X.K X.mg Z F r s H ∧ REnv X.K X.mg F r e σ ∧ Out X.K X.mg Z E F r (loopV ft B (xs.drop (i + 1)) e s) (fun fl _ F' r' H' => FlP X.K X.mg D fl F' r' H'),
        fun σ' H' h => ⟨xs.length - (i + 1), by omega, rfl, hlt, h⟩, fun x H' y => ?_⟩
      obtain ⟨F3, ex3, rl3, rx⟩ := yl x H' y
      refine s Z F3 r e2 s2 σ2 H' xs[i] x _ rl3 (re2.mono ex3) rx ((o2.on ex3).seq.mono fun e4 s4 F4 r4 H4 _ ex4 rl4 o4 σ4 re4 _ => ?_)
      refine sb Z F4 r4 e4 s4 σ4 H4 _ rl4 re4 (o4.seq.mono fun fl s5 F5 r5 H5 _ ex5 rl5 o5 => ?_)
      have exA : Ext F1 r1 F5 r5 := ex2.trans (ex3.trans (ex4.trans ex5))
      cases fl with
      | nx e6 => exact fun σ6 re6 => ⟨F5, r5, e6, s5, exA, rl5, re6, o5⟩
      | ct e6 => exact fun σ6 re6 => ⟨F5, r5, e6, s5, exA, rl5, re6, o5⟩
      | bk e6 => exact fun σ6 re6 => o5.here rl5 σ6 re6
      | rt v => exact o5.here rl5
    · left
      have hi' : i = xs.length := by omega
      subst hi'
      rw [List.drop_length] at o2
      exact ⟨is, o2.here rl2 σ2 re2⟩
def gSubL (fo fi : XE) : PV → Ev → Store → R Ev := fun p env st => (fo env st).bind fun o s1 => (fi env s1).bind fun i s2 => match o, i with
  | .own k, .int j => (match s2[k]? with
    | some (.lst xs) => (match ixN xs.length j with
      | some m => .ok env (s2.set k (.lst (xs.set m p)))
      | none => .no)
    | _ => .no)
  | _, _ => .no
theorem jg_sub {o i : Expr} {fo fi : XE} {vs : List Nat} (ho : JE X E o fo) (hi : JE X E i fi) (ha : ∀ v, assign (.Subscript o i pos) X.env v = (do
      let ov ← holding [v] (eval o X.env)
      let iv ← holding [v, ov] (eval i X.env)
      standAt pos
      holding [v, ov, iv] (setItem ov iv v)
      release [v, ov, iv] []) := by intro _; rfl) : JGv X E vs (.Subscript o i pos) (gSubL fo fi) := by
  obtain ⟨t, p, s⟩ := ho
  obtain ⟨t', p', s'⟩ := hi
  refine ⟨_, pg_sub p p' set_list ha, fun Z Fz ρ env st σ H q v Q rl re rv o => ?_⟩
  refine s Z Fz ρ env st σ H _ rl re (o.seq.mono fun x s1 F1 r1 H1 hq1 ex1 rl1 o1 x' rx => ?_)
  refine s' Z F1 r1 env s1 σ H1 _ rl1 (re.mono ex1) (o1.seq.mono fun y s2 F2 r2 H2 hq2 ex2 rl2 o2 y' ry => ?_)
  clear hq1 hq2
  split at o2
  · rename_i k j
    split at o2
    · rename_i xs ek
      split at o2
      · rename_i m em
        replace rx := rx.mono ex2
        rw [Rep] at rx
        rw [Rep] at ry
        obtain ⟨a, ea, rfl⟩ := rx
        obtain ⟨ws, h1, h2, h3⟩ := rl2.cell k a _ ea ek
        refine ⟨a, ws, j, m, rfl, ry, h1, by rw [← h3.len]; exact em, ?_⟩
        have hc : CellOk X.K X.mg F2 r2 (upd H2 a (.lst (ws.set m v))) a (.lst (xs.set m q)) := ⟨_, upd_same, by simpa using h2, h3.set (rv.mono (ex1.trans ex2)) m⟩
        exact o2 F2 r2 _ Ext.refl (rl2.write ea ek rfl rfl hc) σ ((re.mono ex1).mono ex2) ⟨rfl, fun _ _ => rfl⟩
      · exact o2.elim
    · exact o2.elim
  · exact o2.elim
end
end Lq
end
section
set_option Elab.async false
set_option linter.all false
set_option maxRecDepth 10000
namespace Lq
open PySem PySem.Spec PyProof.Rows L2
section
variable {K : PySem.W.Frag} {mg : Str → Option Value} {Z Fz : Hp} {ρ : List Addr}
def putP (f : Str) (v : PV) : List (Str × PV) → List (Str × PV)
  | [] => [(f, v)]
  | (g, x) :: r => if g = f then (g, v) :: r else (g, x) :: putP f v r
end
def eFld (x f : Str) (fo : XE) : XE := fun env st => (fo env st).bind fun v s => match v with
  | .own k => (match s[k]? with
    | some (.ins y fs) => if y = x then (match fs.lookup f with
      | some p => .ok p s
      | none => .no) else .no
    | _ => .no)
  | _ => .no
def sFldS (x f : Str) (fo fv : XE) : XS := fun env st => (fv env st).bind fun p s1 => (fo env s1).bind fun v s => match v with
  | .own k => (match s[k]? with
    | some (.ins y fs) => if y = x ∧ fs.length < 900 then .ok (.nx env) (s.set k (.ins y (putP f p fs))) else .no
    | _ => .no)
  | _ => .no
section
variable {X : Cx} {E : XK} {a b e o : Expr} {es : List Expr} {p pos apos cpos : Pos} {fa fb fo : XE} {fs : List Str} {x f m : Str}
def eMeth (x m : Str) (n : Nat) (f : Fn) (fo : XE) (fl : XL) : XE := fun env st => (fo env st).bind fun v s => match v with
  | .own k => (match s[k]? with
    | some (.ins y fs) => if y = x ∧ fs.lookup m = none then (fl env s).bind fun vs s2 => if vs.length + 1 = n then f (.own k :: vs) s2 else .no else .no
    | _ => .no)
  | _ => .no
def eMake (x : Str) (n : Nat) (f : Fn) (fl : XL) : XE := fun env st => (fl env st).bind fun vs s => if vs.length + 1 = n then (f (.own s.length :: vs) (s ++ [.ins x []])).bind fun v s2 => (match v with
  | .non => .ok (.own s.length) s2
  | _ => .no) else .no
structure ExcF (X : Cx) (x : Str) : Prop where
  ex : ∃ C, X.mg x = some (.ref C) ∧ PySem.W.excIn X.K C [.type "ValueError", .type "Exception", .type "BaseException", .type "object"] "ValueError.__new__" = true ∧ PySem.W.keepIn X.K (.ref C) = true ∧ Raises X (.ref C)
def sRaise (x : Str) : XS := fun _ st => .ex x st
theorem js_raise {z : Str} {j : Nat} {p2 pos2 : Pos} (hc : X.calm = true) (tk : L2.Takes X (fun cls d _ H => E cls d H)) (c : ExcF X x) (hg : Gl X x := by rfl) (hdb : (x == ("__debug__" : Str)) = false := by decide) :
    JS X E (.Raise (some (.Call (.Name x p) [.Constant (.str z) j p2] [] pos)) none pos2) (sRaise x) := by
  obtain ⟨C, gC, q, kC, r⟩ := c.ex
  refine ⟨_, ps_raise hc tk (pmk_own PySem.F.excBase_ValueError q gC kC r hg hdb), fun Z Fz ρ env st σ H D rl re o => ?_⟩
  obtain ⟨C', e1, e2⟩ := o Fz ρ H Ext.refl rl
  rw [gC] at e1; cases e1
  exact e2
end
end Lq
end
section
set_option Elab.async false
set_option linter.all false
set_option maxRecDepth 10000
namespace Lq
open PySem PySem.Spec PyProof.Rows L2
section
variable {X : Cx} {E : XK} {a b e o tg iter : Expr} {es : List Expr} {p pos apos cpos : Pos} {fa fb fo : XE} {fl : XL} {x f m : Str}
theorem own_list {K : PySem.W.Frag} {mg : Str → Option Value} {Z Fz : Hp} {ρ : List Addr} {st : Store} {H : Hp} {k : Nat} {v : V} {xs : List PV} (rl : Rel K mg Z Fz ρ st H) (r : Rep K mg Fz ρ (.own k) v) (e : st[k]? = some (.lst xs)) :
    ∃ d vs, v = .ref d ∧ ρ[k]? = some d ∧ H d = some (.lst vs) ∧ xs.length ≤ sizeLine ∧ RepL K mg Fz ρ xs vs := by
  rw [Rep] at r
  obtain ⟨d, ed, rfl⟩ := r
  obtain ⟨vs, h1, h2, h3⟩ := rl.cell k d _ ed e
  exact ⟨d, vs, rfl, ed, h1, h2, h3⟩
def eLm (go : List PV → List PV → Store → Option (PV × List PV)) (fo : XE) (fl : XL) : XE := fun env st => (fo env st).bind fun v s => match v with
  | .own k => (match s[k]? with
    | some (.lst _) => (fl env s).bind fun ys s2 => (match s2[k]? with
      | some (.lst xs) => (match go xs ys s2 with
        | some (z, xs') => .ok z (s2.set k (.lst xs'))
        | none => .no)
      | _ => .no)
    | _ => .no)
  | _ => .no
theorem s_lm {id : String} {go r} {to : TE} {t : TA} (hr : ∀ (Z Fz : Hp) (ρ : List Addr) (st : Store) (H : Hp) (d : Addr) (k : Nat) (vs : List V) (xs ys : List PV) (ws : List V) (z : PV) (xs' : List PV) (Q : VK), Rel X.K X.mg Z Fz ρ st H → ρ[k]? = some d → st[k]? = some (.lst xs) → H d = some (.lst vs) → RepL X.K X.mg Fz ρ xs vs → RepL X.K X.mg Fz ρ ys ws → go xs ys st = some (z, xs') →
    (∀ z' vs', Rep X.K X.mg Fz ρ z z' → RepL X.K X.mg Fz ρ xs' vs' → xs'.length ≤ sizeLine → Q z' (upd H d (.lst vs'))) → xs.length ≤ sizeLine → r (.ref d) ws H Q)
    (so : SE X.K X.mg E to fo) (sa : SA X.K X.mg E t fl) : SE X.K X.mg E (tBM X.K "list" r to t) (eLm go fo fl) := fun Z Fz ρ env st σ H Q rl re o => by
  refine so Z Fz ρ env st σ H _ rl re (o.seq.mono fun v s1 F1 r1 H1 hq ex1 rl1 o1 v' rv => ?_)
  clear hq
  split at o1
  · rename_i k
    split at o1
    · rename_i xs0 ek0
      obtain ⟨d0, vs0, e0, _, h0, _, _⟩ := own_list rl1 rv ek0
      subst e0
      refine ⟨.inl ⟨rfl, vs0, SqL.of h0⟩, sa Z F1 r1 env s1 σ H1 _ rl1 (re.mono ex1) (o1.seq.mono fun ys s2 F2 r2 H2 hq2 ex2 rl2 o2 ys' ry => ?_)⟩
      clear hq2
      split at o2
      · rename_i xs ek
        split at o2
        · rename_i z xs' eg
          obtain ⟨d, vs, e1, ed, hd, hl, rr⟩ := own_list rl2 (rv.mono ex2) ek
          cases e1
          refine hr Z F2 r2 s2 H2 d0 k vs xs ys ys' z xs' Q rl2 ed ek hd rr ry eg (fun z' vs' rz rvs hls => ?_) hl
          exact o2 F2 r2 _ Ext.refl (rl2.write (c := .lst xs') ed ek rfl rfl ⟨vs', upd_same, hls, rvs⟩) z' rz
        · exact o2.elim
      · exact o2.elim
    · exact o1.elim
  · exact o1.elim
def goApp : List PV → List PV → Store → Option (PV × List PV) := fun xs ys _ => match ys with
  | [y] => if xs.length < sizeLine then some (.non, xs ++ [y]) else none
  | _ => none
theorem je_append (ho : JE X E o fo) (ha : JA X E [e] fl) (hbase : attributeBase o "append" X.env (eval o X.env) = eval o X.env := by rfl)
    (hfew : ((backTo cpos (starEach [e] X.env)).all (fun x => !x.1) && (backToKw cpos (keywordEach [] X.env)).all (fun x => x.1.isSome)
      && decide (([e] : List Expr).length + ([] : List Keyword).length + (if ([] : List Keyword).isEmpty then 0 else 1) < 30)) = true := by rfl)
    (hline : (apos.endLine == cpos.line) = true := by rfl) (hs : starEach [e] X.env = (false, eval e X.env) :: starEach [] X.env := by rfl) (hplain : (backTo cpos (starEach [] X.env)).any (·.1) = false := by rfl) :
    JE X E (.Call (.Attribute o "append" apos) [e] [] cpos) (eLm goApp fo fl) := by
  obtain ⟨t, pt, s⟩ := ho
  obtain ⟨ta, pa, sa⟩ := ha
  refine ⟨_, pe_bm PySem.F.plainAttrs_list PySem.F.slot_list_append PySem.F.type_list_append mt_append pt pa hbase hfew hline hs hplain, s_lm (id := "list.append") (fun Z Fz ρ st H d k vs xs ys ws z xs' Q rl ed ek hd rr ry eg q hl => ?_) s sa⟩
  unfold goApp at eg
  split at eg
  · split at eg
    · rename_i hlt
      cases eg
      obtain ⟨v, rfl, rv⟩ := rep1 ry
      exact ⟨d, vs, v, rfl, rfl, hd, by rw [← rr.len]; exact hlt, q _ _ (by rw [Rep]) (rr.app (RepL.cons rv RepL.nil)) (by simp; omega)⟩
    · cases eg
  · cases eg
def ePop (fo : XE) : XE := fun env st => (fo env st).bind fun v s => match v with
  | .own k => (match s[k]? with
    | some (.lst xs) => (match xs[xs.length - 1]? with
      | some y => .ok y (s.set k (.lst xs.dropLast))
      | none => .no)
    | _ => .no)
  | _ => .no
theorem RepL.dropLast {K : PySem.W.Frag} {mg : Str → Option Value} {Fz : Hp} {ρ : List Addr} {ps : List PV} {vs : List V} (h : RepL K mg Fz ρ ps vs) : RepL K mg Fz ρ ps.dropLast vs.dropLast := by
  rw [List.dropLast_eq_take, List.dropLast_eq_take, h.len]
  exact h.take _
def eFrz (fo : XE) : XE := fun env st => (fo env st).bind fun v s => match v with
  | .own k => (match s[k]? with
    | some (.lst xs) => .ok (.lst xs) (s.set k (.frz xs))
    | some (.frz xs) => .ok (.lst xs) s
    | _ => .no)
  | .lst xs => .ok (.lst xs) s
  | .tup xs => .ok (.tup xs) s
  | _ => .no
theorem je_frz (ho : JE X E o fo) : JE X E o (eFrz fo) := by
  obtain ⟨t, pt, s⟩ := ho
  refine ⟨t, pt, fun Z Fz ρ env st σ H Q rl re o => ?_⟩
  refine s Z Fz ρ env st σ H _ rl re (o.seq.mono fun v s1 F1 r1 H1 hq ex1 rl1 o1 v' rv => ?_)
  clear hq
  split at o1
  · rename_i k
    split at o1
    · rename_i xs ek
      rw [Rep] at rv
      obtain ⟨d, ed, rfl⟩ := rv
      obtain ⟨vs, hd, rr, hl, rl2, ex2⟩ := rl1.freeze ed ek
      exact o1 _ _ _ ex2 rl2 _ (by rw [Rep]; exact ⟨d, vs, rfl, upd_same, hl, rr.mono ex2⟩)
    · rename_i xs ek
      rw [Rep] at rv
      obtain ⟨d, ed, rfl⟩ := rv
      obtain ⟨vs, q1, q2, q3⟩ := rl1.cell k d _ ed ek
      exact o1.here rl1 _ (by rw [Rep]; exact ⟨d, vs, rfl, q1, q2, q3⟩)
    · exact o1.elim
  · exact o1.here rl1 _ rv
  · exact o1.here rl1 _ rv
  · exact o1.elim
def eSm (go : Str → PV → Store → Option PV) (fo fe : XE) : XE := fun env st => (fo env st).bind fun v s => match v with
  | .str z => (fe env s).bind fun y s2 => (match go z y s2 with
    | some w => .ok w s2
    | none => .no)
  | _ => .no
end
end Lq
end
section
set_option Elab.async false
set_option linter.all false
set_option maxRecDepth 10000
namespace Lq
open PySem PySem.Spec PyProof.Rows L2
theorem xcO_ok {P : Program} {w : World} {H : Hp} {h : Heap} {a : Addr} {cls : Value} {oe : Obj} {vs : Array Value} (e : h.get? a = some oe) (z : Zc cls none oe) (d : oe.data = .fields vs) : ObjOk P w H h a (XcO cls a) :=
  ⟨⟨oe, vs, e, z, d⟩, ⟨oe, e⟩, fun h1 h2 ⟨o, ws, q1, q2, q3⟩ k => ⟨o, ws, k o q1, q2, q3⟩⟩
section
variable {X : Cx} {pins : List (Addr × Obj)} {σ : L2.St} {H : Hp} {s : Shared}
theorem adopt {u : HO} {a : Addr} {o : Obj} {vs : Array Value} (I : Inv X pins σ H s) (na : H a = none) (ho : s.heap.get? a = some o) (hd : o.data = .fields vs) (n0 : X.s_0.heap.get? a = none) (nL : a ≠ X.env.locals)
    (np : ∀ p ∈ X.pn ++ pins, p.1 ≠ a) (ok : ObjOk X.prog X.w (upd H a u) s.heap a u) : Inv X pins σ (upd H a u) s where
  ok := I.ok
  os := I.os
  bare := I.bare
  base := ⟨I.base.keep, I.base.slot, fun b ob q n hx => by
      rw [upd_ne (fun z => by subst z; rw [n0] at q; cases q)]
      exact I.base.free b ob q n hx, I.base.there,
    fun b xs q => by rw [upd_ne (ne_of_none (I.base.tups b xs q) na)]; exact I.base.tups b xs q,
    fun b ob v q => by rw [upd_ne (ne_of_none (I.base.frzs b ob v q) na)]; exact I.base.frzs b ob v q,
    fun b ps q => by
      obtain ⟨more, z⟩ := I.base.tbls b ps q
      exact ⟨more, by rw [upd_ne (ne_of_none z na)]; exact z⟩⟩
  loc := I.loc
  cell := I.cell
  free := by rw [upd_ne (fun z => nL z.symm)]; exact I.free
  freeC := fun x c e => by
    obtain ⟨v, oc, q1, q2⟩ := I.cell x c e
    rw [upd_ne (fun z => by subst z; rw [ho] at q1; cases q1; rw [hd] at q2; cases q2)]
    exact I.freeC x c e
  pin := fun p hp => by
    obtain ⟨z1, z2, z3⟩ := I.pin p hp
    exact ⟨z1, by rw [upd_ne (np p hp)]; exact z2, z3⟩
  hok := fun b v q => by
    by_cases hb : b = a
    · subst hb; rw [upd_same] at q; cases q; exact ok
    · rw [upd_ne hb] at q
      exact (I.hok b v q).stay (fun _ _ _ z => z) (fun c z => by rw [upd_ne (ne_of_none z na)]; exact z) fun c xs z => by rw [upd_ne (ne_of_none z na)]; exact z
  len := I.len
end
def wTrack (K : PySem.W.Frag) (c : Value) (i j : Nat) (D : Ends) : WX := fun cls d σ H => d = none ∧ PySem.W.exmOne K cls c = some true ∧
  ∀ a, H a = none → D.nx ((((σ.set i (some (.ref a))).set j (some (.ref a))).set i none)) (upd H a (XcO cls a))
section
variable {X : Cx} {x n y : Str} {c : Value} {i j : Nat} {body : List Stmt} {np pos pos' py pn2 pa : Pos} {tb : WX → TS}
theorem ps_try_track (hs : X.stack = X.env :: X.outer) (hf : X.env.frame = some X.env.locals) (hex : X.ex = []) (hN : X.N.Nodup) (hi : X.N[i]? = some n) (hj : X.N[j]? = some y) (hln : X.env.kindOf n = some .local) (hly : X.env.kindOf y = some .local) (hc : Names X x c)
    (hb : ∀ (W : WX) (q : List (Addr × Obj)) (xe : Value → Shared → Prop), L2.Takes (X.tr q xe) W → PassesOwn (model X.prog X.w) X.A X.env xe → PSs (X.tr q xe) body (tb W))
    (hsw : ∀ a q, PSs (X.suite a q) [.Assign [.Name y py] (.Name n pn2) pa] (tAsg (tVar i) (gName j))) :
    PS X (.Try body [.ExceptHandler (some (.Name x np)) (some n) [.Assign [.Name y py] (.Name n pn2) pa] pos'] [] [] pos) (fun D σ H => tb (wTrack X.K c i j D) D σ H) := by
  refine ⟨fun pins s σ H D I hyp => ?_⟩
  have good := I.ok
  have frm : X.A.frames = some (X.env :: X.outer) := by rw [good.frames, hs]
  refine wpAny_Try_except (wpAny_mono ((hb (wTrack X.K c i j D) (X.pn ++ pins) _ ?taken PassesOwn.looking).run [] s σ H D (I.toTry _) hyp) (fun fl s1 sp => ?_) fun e s1 z => z)
  case taken =>
    rintro u t0 ⟨e, B, sB, pb, τ, G, cls, d, rfl, I0, grnd, up0, sky, nG, eos, abr, rfl, mat, want⟩
    have I1 : Inv X pins τ G sB := I0.ofTry good
    rw [show X.stack = X.env :: X.outer from hs] at sky
    refine Sky.land Zc.steady frm hf sky fun hA flA upA => ?_
    have I2 : Inv X pins τ G { t0 with heap := hA } := I1.landed grnd flA.1 (up0.trans upA) eos abr
    obtain ⟨oA, fA, gA, zA, dA⟩ := flA.there
    have off : e ∉ frs (X.env :: X.outer) := fun hm => by
      obtain ⟨_, o', g', nf⟩ := flA.2.2.1.mem hm
      rw [gA] at g'; cases g'
      exact nf _ dA
    have offL : e ≠ X.env.locals := fun z => off (List.mem_filterMap.mpr ⟨X.env, .head _, by rw [hf, z]⟩)
    have offF : e ∉ X.fs := fun hm => by
      obtain ⟨v, hv, q⟩ := List.mem_filterMap.mp hm
      exact off (List.mem_filterMap.mpr ⟨v, .tail _ hv, q⟩)
    have newB : B.get? e = none := flA.2.1
    have newI : sB.heap.get? e = none := by
      cases q : sB.heap.get? e with
      | none => rfl
      | some o =>
        have z := grnd e o q (by rw [hs]; exact off)
        rw [newB] at z; cases z
    have new0 : X.s_0.heap.get? e = none := by
      cases q : X.s_0.heap.get? e with
      | none => rfl
      | some o =>
        obtain ⟨o', z⟩ := I1.base.there e o q (by rw [hex]; simp)
        rw [newI] at z; cases z
    have newP : ∀ p ∈ X.pn ++ pins, p.1 ≠ e := fun p hp z => by
      have q := (I1.pin p hp).1
      rw [z, newI] at q; cases q
    have S2 := I2.suite gA dA nG offL offF
    refine wpAny_handleBy_cons (codeAny_handlers_test ?_) (by intro q; cases q)
    have lk : PySem.W.Looks (model X.prog X.w) hA (typeOf (.ref e)) cls := fun A Q E s k q => wpAny_typeOf_ref (k _ _ gA) (by rw [zA.1]; exact q)
    have asks : ∀ {Q : Value → Shared → Prop} {E : Value → Shared → Prop}, Q c { t0 with heap := hA } → wpAny (model X.prog X.w) (X.A.mark (some (.ref e))) (eval (.Name x np) X.env) Q E { t0 with heap := hA } := fun {Q E} q => by
      rcases hc with ⟨g1, g2, g3 | ⟨g3, g4, g5⟩⟩
      · exact ld_glob (X := X.suite e ((e, oA) :: (X.pn ++ pins))) S2 g1 g3 q g2
      · exact ld_blt (X := X.suite e ((e, oA) :: (X.pn ++ pins))) S2 g1 g3 g4 q g5 g2
    refine asks ((PySem.W.exm_one (M := model X.prog X.w) I2.kIn lk mat).here ?_)
    refine codeAny_handlers_suite_as (HandSPX.lands_againZ flA fun hC flC upC => ?_)
    have I3 : Inv X pins τ G { t0 with heap := hC } := I1.landed grnd flC.1 ((up0.trans upA).trans upC) eos abr
    obtain ⟨oC, fC, gC, zC, dC⟩ := flC.there
    have S3 := I3.suite gC dC nG offL offF
    refine store_ok (X := X.suite e ((e, oC) :: (X.pn ++ pins))) (v := .ref e) S3 hN hi (.inl hln) rfl (fun s5 S5 => ?_) (.inr hln)
    have leni : i < τ.length := by rw [I1.len]; exact (List.getElem?_eq_some_iff.mp hi).1
    refine wpAny_mono ((hsw e ((e, oC) :: (X.pn ++ pins))).run [] s5 _ G { nx := fun σ' H' => σ' = (τ.set i (some (.ref e))).set j (some (.ref e)) ∧ H' = G, rt := fun _ _ => False } S5 ⟨.ref e, by rw [List.getElem?_set_self leni], rfl, rfl⟩) (fun fl s6 sp => ?_) fun _ _ z => z.elim
    cases fl with
    | next =>
      obtain ⟨σ6, H6, S6, rfl, rfl⟩ := sp
      obtain ⟨g6, n6, _⟩ := S6.pin (e, oC) (List.mem_append.mpr (.inl (.head _)))
      have I6 : Inv X pins _ H6 s6 := S6.unsuite good
      have I7 := adopt (u := XcO cls e) I6 nG g6 dC new0 offL newP (xcO_ok g6 zC dC)
      exact gone_ok I7 hN hi hln fun s7 I8 => ⟨_, _, I8, want e nG⟩
    | brk => obtain ⟨_, _, _, z⟩ := sp; exact z.elim
    | cont => obtain ⟨_, _, _, z⟩ := sp; exact z.elim
    | ret u => obtain ⟨_, _, _, _, _, z⟩ := sp; exact z.elim
  cases fl with
  | next => obtain ⟨σ', H', J, q⟩ := sp; exact wpAny_execs_nil ⟨σ', H', J.ofTry good, q⟩
  | brk => obtain ⟨σ', H', J, q⟩ := sp; exact ⟨σ', H', J.ofTry good, q⟩
  | cont => obtain ⟨σ', H', J, q⟩ := sp; exact ⟨σ', H', J.ofTry good, q⟩
  | ret u => obtain ⟨v, σ', H', J, r, q⟩ := sp; exact ⟨v, σ', H', J.ofTry good, r, q⟩
def tOfA (K : PySem.W.Frag) (mg : Str → Option Value) (E : XK) (f : XL) : TA := fun σ H Q => ∃ Z Fz ρ env st, Rel K mg Z Fz ρ st H ∧ REnv K mg Fz ρ env σ ∧ Out K mg Z E Fz ρ (f env st) (fun vs _ Fz' ρ' H' => ∀ vs', RepL K mg Fz' ρ' vs vs' → Q vs' H')
theorem JA.pe {X : Cx} {E : XK} {es : List Expr} {f : XL} (h : JA X E es f) : PA X es (tOfA X.K X.mg E f) := by
  obtain ⟨t, p, s⟩ := h
  exact ⟨fun pos pins sh σ H Q I ⟨Z, Fz, ρ, env, st, rl, re, o⟩ => p.run pos pins sh σ H Q I (s Z Fz ρ env st σ H Q rl re o)⟩
def sTryCall (i j r n : Nat) (cs : List Str) (f : Fn) (fl : XL) : XS := fun env st => (noX (fl env st)).bind fun vs s => if vs.length = n then (match f vs s with
  | .ok v s2 => .ok (.nx (env.set r (some v))) s2
  | .ex c s2 => if c ∈ cs then .ok (.nx ((env.set j (some (.own s2.length))).set i none)) (s2 ++ [.exc c]) else .no
  | .no => .no) else .no
theorem renv_kept {K : PySem.W.Frag} {mg : Str → Option Value} {Fz : Hp} {ρ : List Addr} {env : Ev} {σ : L2.St} {i j : Nat} {p : PV} {v : V} (h : REnv K mg Fz ρ env σ) (r : Rep K mg Fz ρ p v) (hij : i ≠ j) :
    REnv K mg Fz ρ ((env.set j (some p)).set i none) (((σ.set i (some v)).set j (some v)).set i none) := by
  refine ⟨by simp [h.1], fun q z e => ?_⟩
  have hq : i ≠ q := fun w => by
    subst w
    have hl : i < (env.set j (some p)).length := by
      have := (List.getElem?_eq_some_iff.mp e).1
      simpa using this
    rw [List.getElem?_set_self hl] at e; cases e
  rw [List.getElem?_set_ne hq] at e ⊢
  by_cases hj : j = q
  · subst hj
    have hl : j < env.length := by
      have := (List.getElem?_eq_some_iff.mp e).1
      simpa using this
    rw [List.getElem?_set_self hl] at e
    cases e
    exact ⟨v, by rw [List.getElem?_set_self (by simp [← h.1, hl])], r⟩
  · rw [List.getElem?_set_ne hj] at e ⊢
    rw [List.getElem?_set_ne hq]
    exact h.2 q z e
theorem js_tryCall {E : XK} {k l m r : Nat} {g z : Str} {pr pg pc pq : Pos} {e : Expr} {es : List Expr} {f : Fn} {fl : XL} {cs : List Str} (hs : X.stack = X.env :: X.outer) (hf : X.env.frame = some X.env.locals) (hex : X.ex = []) (hN : X.N.Nodup) (hc : Names X x c)
    (hcs : ∀ w ∈ cs, ∃ C, X.mg w = some (.ref C) ∧ PySem.W.exmOne X.K (.ref C) c = some true)
    (F : Cl X.prog X.w X.K X.mg X.base k g m f) (hr : Room l X.A) (ha : ∀ (q : List (Addr × Obj)) (xe : Value → Shared → Prop), JA (X.tr q xe) E0 (e :: es) fl) (hk : k ≤ l := by decide)
    (hi : X.N[i]? = some n := by rfl) (hj : X.N[j]? = some y := by rfl) (hrN : X.N[r]? = some z := by rfl) (hij : i ≠ j := by decide) (hln : X.env.kindOf n = some .local := by rfl) (hly : X.env.kindOf y = some .local := by rfl) (hlz : X.env.kindOf z = some .local := by rfl) (hg : Gl X g := by rfl)
    (hdb : (g == ("__debug__" : Str)) = false := by decide) (he : starEach (e :: es) X.env = (false, eval e X.env) :: starEach es X.env := by rfl) (hpl : (backTo pc (starEach es X.env)).any (·.1) = false := by rfl)
    (hsw : swapsWith (.Call (.Name g pg) (e :: es) [] pc) (some (.Name z pr)) pq.line X.env = pure false := by rfl) (hsw2 : swapsWith (.Name n pn2) (some (.Name y py)) pa.line X.env = pure false := by rfl) (hd1 : (n == ("__debug__" : Str)) = false := by decide) (hd2 : (n == ("__classdict__" : Str)) = false := by decide) :
    JS X E (.Try [.Assign [.Name z pr] (.Call (.Name g pg) (e :: es) [] pc) pq] [.ExceptHandler (some (.Name x np)) (some n) [.Assign [.Name y py] (.Name n pn2) pa] pos'] [] [] pos) (sTryCall i j r m cs f fl) := by
  obtain ⟨d, fd, ps, hm, hkp, hbi, FO⟩ := F.ex
  refine ⟨fun D σ H => tAsg (tCallS (spF X.K X.mg m f) (WE (wTrack X.K c i j D)) (tOfA X.K X.mg E0 fl)) (gName r) D σ H, ps_try_track (tb := fun W => tAsg (tCallS (spF X.K X.mg m f) (WE W) (tOfA X.K X.mg E0 fl)) (gName r)) hs hf hex hN hi hj hln hly hc (fun W q xe tk _ => ?_) (fun a q => ?_), fun Z Fz ρ env st σ H D rl re o => ?_⟩
  · exact L2.pss_one (ps_set (X := X.tr q xe) (i := r) hN hrN (.inl hlz) (pe_callS (X := X.tr q xe) FO (hr.mono hk) hg hm hkp hbi (fun τ => passAt tk τ) (ha q xe).pe hdb he hpl) hsw (.inr hlz))
  · exact L2.pss_one (ps_set (X := X.suite a q) (i := j) hN hj (.inl hly) (pe_var (X := X.suite a q) hi (.inl hln) hd1 hd2) hsw2 (.inr hly))
  · refine ⟨Z, Fz, ρ, env, st, rl, re, ?_⟩
    have o1 : Out X.K X.mg Z E Fz ρ ((noX (fl env st)).bind fun vs s => if vs.length = m then (match f vs s with
      | .ok v s2 => R.ok (Fl.nx (env.set r (some v))) s2
      | .ex c s2 => if c ∈ cs then .ok (.nx ((env.set j (some (.own s2.length))).set i none)) (s2 ++ [.exc c]) else .no
      | .no => .no) else .no) (fun fl _ F' r' H' => FlP X.K X.mg D fl F' r' H') := o
    refine (out_noX o1.seq).mono fun vs s1 F1 r1 H1 _ ex1 rl1 o2 vs' rv => ?_
    split at o2
    · rename_i hn
      refine ⟨by rw [← rv.len]; exact hn, Z, F1, r1, s1, vs, rl1, rv, ?_⟩
      cases ef : f vs s1 with
      | ok v s2 =>
        rw [ef] at o2
        exact fun F2 r2 H2 ex2 rl2 v' rv' => o2 F2 r2 H2 ex2 rl2 _ (((re.mono ex1).mono ex2).set rv' r)
      | ex w s2 =>
        rw [ef] at o2
        have o3 : Out X.K X.mg Z E F1 r1 (if w ∈ cs then .ok (.nx ((env.set j (some (.own s2.length))).set i none)) (s2 ++ [.exc w]) else .no) (fun fl _ F' r' H' => FlP X.K X.mg D fl F' r' H') := o2
        split at o3
        · rename_i hw
          obtain ⟨C, hC, hm2⟩ := hcs w hw
          refine fun F2 r2 H2 ex2 rl2 => ⟨C, hC, rfl, hm2, fun a na => ?_⟩
          have ex0 : Ext F2 r2 F2 (r2 ++ [a]) := ⟨fun _ _ h => h, List.prefix_append _ _⟩
          obtain ⟨rl3, ex3⟩ := rl2.owned na (o := XcO (.ref C) a) (c := .exc w) rfl ⟨C, hC, upd_same⟩
          exact o3 F2 _ _ (ex2.trans ex3) rl3 _ (renv_kept ((re.mono ex1).mono (ex2.trans ex3)) (by rw [Rep]; exact ⟨a, by rw [← rl2.len]; simp, rfl⟩) hij)
        · exact o3.elim
      | no => rw [ef] at o2; exact o2.elim
    · exact o2.elim
def eIsE (t : Str → Bool) (cs : List Str) (f : XE) : XE := fun env st => (f env st).bind fun p s => match p with
  | .own k => (match s[k]? with
    | some (.exc c) => if c ∈ cs then .ok (.bl (t c)) s else .no
    | _ => .no)
  | _ => .no
theorem call_isX {X : Cx} : CallR X (.builtin "isinstance") (fun xs H Q => ∃ (a D : Addr) (c : V) (cv : Value) (b : Bool), xs = [.ref a, c] ∧ H a = some (XcO (.ref D) a) ∧ ExcC X.K D ∧ (∀ u, RelV c u → u = cv) ∧ PySem.W.kitOne X.K (.ref D) cv = some b ∧ Q (.bl b) H) := by
  intro pins s σ H xs us Q I r h
  obtain ⟨a, D, c, cv, b, rfl, hx, C, hcv, ek, q⟩ := h
  match us, r with
  | [u1, u2], .cons r1 (.cons r2 .nil) =>
    obtain rfl : u1 = Value.ref a := r1
    obtain rfl := hcv u2 r2
    obtain ⟨⟨oe, vs, g1, g2, g3⟩, _, _⟩ := I.hok a _ hx
    have inst : PySem.W.InstAt s.heap a oe D none := by
      obtain ⟨oc, od, oda, osl⟩ := oe
      obtain ⟨k1, k2⟩ := g2
      dsimp only at k1 k2 g3
      subst k1 k2 g3
      exact ⟨g1, rfl, rfl, trivial⟩
    exact PySem.W.kia_one (PySem.W.handS_kitx_exc C.hg C.hk C.hs C.hd C.ha C.hn C.ht C.hm) I.kIn inst ek (fun z => nomatch z) fun tk => ⟨.bl b, H, I.kept (t' := tk) fun _ _ z => z, rfl, q⟩
theorem je_isE {X : Cx} {E : XK} {a : Expr} {p q pos : Pos} {f : XE} {y : Str} {t : Str → Bool} {cs : List Str} {cV : V} {cv : Value} (ha : JE X E a f) (hy : PE X (.Name y q) (tC cV)) (hcv : ∀ u, RelV cV u → u = cv)
    (hcs : ∀ w ∈ cs, ∀ C, X.mg w = some (.ref C) → ExcC X.K C ∧ PySem.W.kitOne X.K (.ref C) cv = some (t w)) (hm : X.mg "isinstance" = none) (hg : Gl X "isinstance" := by rfl)
    (he : starEach [a, .Name y q] X.env = (false, eval a X.env) :: starEach [.Name y q] X.env := by rfl) (hpl : (backTo pos (starEach [.Name y q] X.env)).any (·.1) = false := by rfl) : JE X E (.Call (.Name "isinstance" p) [a, .Name y q] [] pos) (eIsE t cs f) := by
  obtain ⟨ta, pt, s⟩ := ha
  refine ⟨_, pe_callB call_isX hg hm (by decide +kernel) (pa_cons pt (pa_cons hy pa_nil) he) (he := he) (hpl := hpl), fun Z Fz ρ env st σ H Q rl hh o => ?_⟩
  refine s Z Fz ρ env st σ H _ rl hh (o.seq.mono fun x s1 F1 r1 H1 hq ex1 rl1 o1 x' rx => ?_)
  clear hq
  split at o1
  · rename_i k
    split at o1
    · rename_i w ek
      split at o1
      · rename_i hw
        rw [Rep] at rx
        obtain ⟨d, ed, rfl⟩ := rx
        obtain ⟨C, hC, hd⟩ := rl1.cell k d _ ed ek
        obtain ⟨k1, k2⟩ := hcs w hw C hC
        exact ⟨d, C, cV, cv, t w, rfl, hd, k1, hcv, k2, o1.here rl1 _ (by rw [Rep])⟩
      · exact o1.elim
    · exact o1.elim
  · exact o1.elim
end
end Lq
end
section
set_option Elab.async false
set_option linter.all false
set_option maxRecDepth 10000
namespace Lq
open PySem PySem.Spec PyProof.Rows L2
section
variable {X : Cx} {E : XK}
def eLenO (x : Str) (f : Fn) (fo : XE) : XE := fun env st => (fo env st).bind fun v s => match v with
  | .own k => (match s[k]? with
    | some (.ins y _) => if y = x then (f [.own k] s).bind fun r s2 => (match r with
      | .int m => if 0 ≤ m ∧ m < 2 ^ 63 then .ok (.int m) s2 else .no
      | _ => .no) else .no
    | _ => .no)
  | _ => .no
end
def findP (d : PV) : List PV → Nat → Option Nat
  | [], _ => none
  | x :: xs, i => if peq x d = true then some i else findP d xs (i + 1)
theorem findP_spec {d : PV} : ∀ {xs : List PV} {i j : Nat}, findP d xs i = some j → ∃ k z, j = i + k ∧ xs[k]? = some z ∧ peq z d = true ∧ ∀ m z', m < k → xs[m]? = some z' → peq z' d = false
  | [], _, _, h => by cases h
  | x :: xs, i, j, h => by
    unfold findP at h
    split at h
    · rename_i c
      cases h
      exact ⟨0, x, rfl, rfl, c, fun m z' hm _ => absurd hm (Nat.not_lt_zero _)⟩
    · rename_i c
      obtain ⟨k, z, h1, h2, h3, h4⟩ := findP_spec h
      refine ⟨k + 1, z, by omega, by simpa using h2, h3, fun m z' hm e => ?_⟩
      cases m with
      | zero => simp at e; subst e; simpa using c
      | succ m => exact h4 m z' (by omega) (by simpa using e)
theorem toDs_get : ∀ {xs : List PV} {k : Nat}, (toDs xs)[k]? = (xs[k]?).map toD
  | [], k => by simp [toDs]
  | x :: xs, 0 => by simp [toDs]
  | x :: xs, k + 1 => by simp [toDs, toDs_get]
theorem noScrs_get : ∀ {xs : List PV} {k : Nat} {z : PV}, noScrs xs = true → xs[k]? = some z → noScr z = true
  | [], _, _, _, e => by simp at e
  | x :: xs, 0, z, h, e => by
    rw [noScrs, Bool.and_eq_true] at h
    simp at e; subst e; exact h.1
  | x :: xs, k + 1, z, h, e => by
    rw [noScrs, Bool.and_eq_true] at h
    exact noScrs_get h.2 (by simpa using e)
def eLr (go : PV → PV → Store → Option PV) (fo : XE) (fl : XL) : XE := fun env st => (fo env st).bind fun v s => match asL s v with
  | some _ => (fl env s).bind fun ys s2 => (match ys with
    | [y] => (match go v y s2 with
      | some z => .ok z s2
      | none => .no)
    | _ => .no)
  | none => .no
def goIndex : PV → PV → Store → Option PV := fun v y st => match rsv st v with
  | .lst xs => if (dChk y && dChk (.lst xs)) = true then (findP y xs 0).map fun k => .int (k : Int) else none
  | _ => none
section
variable {X : Cx} {E : XK} {e o : Expr} {apos cpos : Pos} {fo : XE} {fl : XL}
theorem s_lr {go : PV → PV → Store → Option PV} {r : V → List V → Hp → VK → Prop} {to : TE} {t : TA} (hr : ∀ (Z Fz : Hp) (ρ : List Addr) (st : Store) (H : Hp) (v y : PV) (v' y' : V) (z : PV) (Q : VK), Rel X.K X.mg Z Fz ρ st H → Rep X.K X.mg Fz ρ v v' → Rep X.K X.mg Fz ρ y y' → go v y st = some z →
    (∀ v'', Rep X.K X.mg Fz ρ z v'' → Q v'' H) → r v' [y'] H Q) (so : SE X.K X.mg E to fo) (sa : SA X.K X.mg E t fl) : SE X.K X.mg E (tBM X.K "list" r to t) (eLr go fo fl) := fun Z Fz ρ env st σ H Q rl re o => by
  refine so Z Fz ρ env st σ H _ rl re (o.seq.mono fun v s1 F1 r1 H1 hq ex1 rl1 o1 v' rv => ?_)
  clear hq
  split at o1
  · rename_i xs ex
    obtain ⟨d, vs, rfl, sq, _, _⟩ := asL_ok rl1 rv ex
    refine ⟨.inl ⟨rfl, vs, sq⟩, sa Z F1 r1 env s1 σ H1 _ rl1 (re.mono ex1) (o1.seq.mono fun ys s2 F2 r2 H2 hq2 ex2 rl2 o2 ys' ry => ?_)⟩
    clear hq2
    split at o2
    · obtain ⟨y', rfl, ry'⟩ := rep1 ry
      split at o2
      · rename_i z ez
        exact hr Z F2 r2 s2 H2 v _ _ y' z Q rl2 (rv.mono ex2) ry' ez fun v'' rz => o2.here rl2 v'' rz
      · exact o2.elim
    · exact o2.elim
  · exact o1.elim
theorem je_index (hu : X.A.units + 65 < cLine) (ho : JE X E o fo) (ha : JA X E [e] fl) (hbase : attributeBase o "index" X.env (eval o X.env) = eval o X.env := by rfl)
    (hfew : ((backTo cpos (starEach [e] X.env)).all (fun x => !x.1) && (backToKw cpos (keywordEach [] X.env)).all (fun x => x.1.isSome)
      && decide (([e] : List Expr).length + ([] : List Keyword).length + (if ([] : List Keyword).isEmpty then 0 else 1) < 30)) = true := by rfl)
    (hline : (apos.endLine == cpos.line) = true := by rfl) (hs : starEach [e] X.env = (false, eval e X.env) :: starEach [] X.env := by rfl) (hplain : (backTo cpos (starEach [] X.env)).any (·.1) = false := by rfl) :
    JE X E (.Call (.Attribute o "index" apos) [e] [] cpos) (eLr goIndex fo fl) := by
  obtain ⟨t, pt, s⟩ := ho
  obtain ⟨ta, pa, sa⟩ := ha
  refine ⟨_, pe_bm PySem.F.plainAttrs_list PySem.F.slot_list_index PySem.F.type_list_index (mt_indexD hu) pt pa hbase hfew hline hs hplain, s_lr (fun Z Fz ρ st H v y v' y' z Q rl rv ry eg q => ?_) s sa⟩
  unfold goIndex at eg
  split at eg
  · rename_i xs ex
    split at eg
    · rename_i c
      rw [Bool.and_eq_true] at c
      cases ef : findP y xs 0 with
      | none => rw [ef] at eg; cases eg
      | some j =>
        rw [ef] at eg
        cases eg
        obtain ⟨k, w, h1, h2, h3, h4⟩ := findP_spec ef
        have hk : j = k := by omega
        subst hk
        have dv := dp_rsv rl rv (by rw [ex]; exact c.2)
        rw [ex, toD] at dv
        have s2 := shaped_chk c.2
        rw [toD] at s2
        have c1 := c.1
        have c2 := c.2
        unfold dChk at c1 c2
        rw [Bool.and_eq_true] at c1 c2
        have ns : noScrs xs = true := by have := c2.2; rw [noScr] at this; exact this
        have isr : ∃ d, v' = .ref d := by cases dv with | lst _ _ => exact ⟨_, rfl⟩
        obtain ⟨d, rfl⟩ := isr
        refine ⟨d, y', toD y, toDs xs, j, toD w, rfl, rfl, dv, dp_x rl ry c.1, s2, shaped_chk c.1, by rw [toDs_get, h2]; rfl, by rw [eqv_toD _ _ (noScrs_get ns h2) c1.2]; exact h3, fun m z' hm e' => ?_, q _ (by rw [Rep])⟩
        rw [toDs_get] at e'
        cases em : xs[m]? with
        | none => rw [em] at e'; cases e'
        | some z2 =>
          rw [em] at e'
          cases e'
          rw [eqv_toD _ _ (noScrs_get ns em) c1.2]
          exact h4 m z2 hm em
    · cases eg
  · cases eg
def isB (b : Bool) : Value → Bool
  | .bool c => c == b
  | _ => false
theorem vals_bl : ∀ {bs : List Bool} {us : List Value}, Vals (bs.map V.bl) us → us = bs.map Value.bool
  | [], _, .nil => rfl
  | b :: bs, _, .cons r t => by
    have r' : _ = Value.bool b := r
    rw [r', vals_bl t]; rfl
theorem mt_countB : MtR X "list.count" (fun x xs H Q => ∃ (p : Addr) (bs : List Bool) (b : Bool), x = .ref p ∧ xs = [.bl b] ∧ SqL X.K H p (bs.map V.bl) ∧ Q (.int ((bs.count b : Nat) : Int)) H) := by
  intro pins s σ H x xs v us Q I rx rxs h
  obtain ⟨l, bs, b, rfl, rfl, sq, q⟩ := h
  obtain rfl : v = Value.ref l := rx
  match us, rxs with
  | [u], .cons ru .nil =>
    obtain rfl : u = Value.bool b := ru
    obtain ⟨its, rv, ⟨⟨cls, dd, data, sl⟩, n, ho, hc, hdn, hd⟩, hlen⟩ := I.list sq
    have ei := vals_bl rv
    subst ei
    simp only at hc hd
    subst hc hd
    have eqs : ∀ y, y ∈ (bs.map Value.bool).toArray → SeqAt.EqAt X.A.in1 s y (.bool b) (isB b y) := fun y hy => by
      have hy' : y ∈ bs.map Value.bool := by simpa using hy
      obtain ⟨c, _, rfl⟩ := List.mem_map.mp hy'
      exact SeqAt.EqAt.bool_bool c b
    have cnt : ∀ bs : List Bool, (bs.map Value.bool).countP (isB b) = bs.count b := fun bs => by
      induction bs with
      | nil => rfl
      | cons c r ih => rw [List.map_cons, List.countP_cons, ih, List.count_cons]; rfl
    refine call_meets PySem.F.slot_list_count ⟨_, ho, rfl⟩ PySem.F.entry_list_count (PySem.F.args_list_count_2 _ _) (SeqAt.list_countAt l _ n dd sl (.bool b) (isB b)) ⟨ho, eqs, ?_⟩
    refine ⟨.int ((bs.count b : Nat) : Int), H, I.tok _, ⟨s.toks, ?_⟩, q⟩
    show Value.int ((((bs.map Value.bool).toArray.toList.countP (isB b) : Nat) : Int)) s.toks = _
    rw [List.toList_toArray, cnt]
def goCount : PV → PV → Store → Option PV := fun v y st => match asL st v, y with
  | some xs, .bl b => (match asBools xs with
    | some bs => some (.int ((bs.count b : Nat) : Int))
    | none => none)
  | _, _ => none
theorem je_count (ho : JE X E o fo) (ha : JA X E [e] fl) (hbase : attributeBase o "count" X.env (eval o X.env) = eval o X.env := by rfl)
    (hfew : ((backTo cpos (starEach [e] X.env)).all (fun x => !x.1) && (backToKw cpos (keywordEach [] X.env)).all (fun x => x.1.isSome)
      && decide (([e] : List Expr).length + ([] : List Keyword).length + (if ([] : List Keyword).isEmpty then 0 else 1) < 30)) = true := by rfl)
    (hline : (apos.endLine == cpos.line) = true := by rfl) (hs : starEach [e] X.env = (false, eval e X.env) :: starEach [] X.env := by rfl) (hplain : (backTo cpos (starEach [] X.env)).any (·.1) = false := by rfl) :
    JE X E (.Call (.Attribute o "count" apos) [e] [] cpos) (eLr goCount fo fl) := by
  obtain ⟨t, pt, s⟩ := ho
  obtain ⟨ta, pa, sa⟩ := ha
  refine ⟨_, pe_bm PySem.F.plainAttrs_list PySem.F.slot_list_count PySem.F.type_list_count mt_countB pt pa hbase hfew hline hs hplain, s_lr (fun Z Fz ρ st H v y v' y' z Q rl rv ry eg q => ?_) s sa⟩
  unfold goCount at eg
  split at eg
  · rename_i xs b ex
    split at eg
    · rename_i bs eb
      cases eg
      obtain ⟨d, vs, rfl, sq, _, rr⟩ := asL_ok rl rv ex
      rw [asBools_eq eb] at rr
      rw [of_bools rr] at sq
      rw [Rep] at ry
      exact ⟨d, bs, b, rfl, by rw [ry], sq, q _ (by rw [Rep])⟩
    · cases eg
  · cases eg
end
end Lq
end
section
set_option Elab.async false
set_option linter.all false
set_option maxRecDepth 10000
namespace Lq
open PySem PySem.Spec PyProof.Rows L2
theorem sf_fz {K : PySem.W.Frag} {mg : Str → Option Value} {E : XK} {t : TE} {f : XL} (s : SF K mg E t f) : SE K mg E t (eFz f) := fun Z Fz ρ env st σ H Q rl hh o => s Z Fz ρ env st σ H Q rl hh (o.seq.mono fun xs s1 F1 r1 H1 _ ex1 rl1 o1 p vs hp hl rv => by
  obtain ⟨rl2, ex2⟩ := rl1.frozen hp (.lst vs)
  exact o1 _ _ _ ex2 rl2 _ (by rw [Rep]; exact ⟨p, vs, rfl, upd_same, hl, rv.mono ex2⟩))
section
variable {K : PySem.W.Frag} {mg : Str → Option Value}
end
section
variable {X : Cx} {E : XK} {a b e elt tg iter tg1 iter1 : Expr} {ifs ifs1 : List Expr} {scope : Scope} {own : List (Str × Nat)} {vs1 : List Nat} {g g1 : XL} {ft ft1 : PV → Ev → Store → R Ev} {tt tt1 : Ev → Store → R Bool} {fe fa : XE} {pos : Pos}
theorem js_setLc {i : Nat} {y : Str} {py spos : Pos} (hc : X.calm = true) (hN : X.N.Nodup) (ok : BlkOk X.N X.env.scope scope own) (hi : JI X E tg iter g)
    (hg : Blk X scope fun Y => JGv Y E0 (own.map (·.2)) tg ft) (ht : Blk X scope fun Y => JTs Y E0 ifs tt) (he : Blk X scope fun Y => JE Y E0 elt fe)
    (hsw : swapsWith (.ListComp elt [⟨tg, iter, ifs, 0⟩] scope pos) (some (.Name y py)) spos.line X.env = pure true := by exact sw_true rfl rfl rfl (by decide +kernel)) (hy : X.N[i]? = some y := by rfl) (hyl : X.env.scope.names.lookup y = some .local := by rfl)
    (hs : ∀ x, foldedSetIterable iter X.env x = pure x := by intro _; rfl) : JS X E (.Assign [.Name y py] (.ListComp elt [⟨tg, iter, ifs, 0⟩] scope pos) spos) (sSet i (eFz (fComp g ft tt fe (own.map (·.2))))) := by
  obtain ⟨wi, pw, sw⟩ := hi
  exact ⟨_, ps_setLc hc hN hy hyl hsw pw ok (fun s H C cl fp => (hg s H C cl fp).pe) (fun s H C cl fp => (ht s H C cl fp).pe) (fun s H C cl fp => (he s H C cl fp).pe) hs, ss_set (sf_fz (lc_read sw))⟩
def sPar3 (i j l : Nat) (f : XL) : XS := fun env st => (f env st).bind fun vs s => match vs with
  | [v, w, u] => .ok (.nx (((env.set i (some v)).set j (some w)).set l (some u))) s
  | _ => .no
end
end Lq
end
section
set_option Elab.async false
set_option linter.all false
set_option maxRecDepth 100000
namespace Lq
open PySem PySem.Spec PyProof.Rows L2
open AutoSeq1 (wpAny_loadPart')
def iEnumT (f : XL) : XL := fun env st => (f env st).bind fun vs s => match vs with
  | [.tup xs] => .ok (nums xs) s
  | [p] => (match asVL s p with
    | some xs => .ok (nums xs) s
    | _ => .no)
  | _ => .no
section
variable {X : Cx} {E : XK} {a b : Expr} {p pos : Pos}
end
end Lq
end
section
set_option Elab.async false
set_option linter.all false
set_option maxRecDepth 10000
namespace Lq
open PySem PySem.Spec PyProof.Rows L2
def excs : List Str := ["InvalidThings", "InvalidTold", "InvalidWeights", "InvalidLot", "InvalidComparison", "InvalidNumber", "InvalidText", "NotSure", "NoneAgree", "TooMany", "NothingToUndo"]
def excIs (y c : Str) : Bool := y == "ValueError" || c == y
def exC1 (K : PySem.W.Frag) (D : Addr) : Bool :=
  decide (PySem.W.findIn K (.ref D) "__getattribute__" = some (some (.builtin "BaseException.__getattribute__"))) && (decide (PySem.W.findIn K (.ref D) "__getattr__" = some none) &&
  (decide (PySem.W.subIn K (.ref D) (.type "BaseException") = some true) && (PySem.W.hasDictIn K D &&
  (decide (PySem.W.findIn K (.ref D) "__class__" = some (some (.builtin "object.__class__"))) && (decide (PySem.W.specialIn K (.builtin "object.__class__") "__get__" = some (some (.builtin "getset_descriptor.__get__"))) &&
  (decide (PySem.W.takesIn K (.builtin "object.__class__") = some true) && decide (PySem.W.mroIn K D (.type "object") = some true)))))))
theorem exC1_ok {K : PySem.W.Frag} {D : Addr} (h : exC1 K D = true) : ExcC K D := by
  unfold exC1 at h
  simp only [Bool.and_eq_true, decide_eq_true_eq] at h
  exact ⟨h.1, h.2.1, h.2.2.1, h.2.2.2.1, h.2.2.2.2.1, h.2.2.2.2.2.1, h.2.2.2.2.2.2.1, h.2.2.2.2.2.2.2⟩
def exB (l : List Str) (K : PySem.W.Frag) : Bool := l.all fun c =>
  decide (PySem.W.nsIn K mainGlobals c = some (some (.ref (He.ga K c)))) && ((He.Fa.exc c).ok K && (exC1 K (He.ga K c) && (decide (PySem.W.exmOne K (.ref (He.ga K c)) (.ref (He.ga K "ScaleError")) = some true) &&
    (decide (PySem.W.kitOne K (.ref (He.ga K c)) (.type "ValueError") = some true) && l.all fun y => decide (PySem.W.kitOne K (.ref (He.ga K c)) (.ref (He.ga K y)) = some (c == y))))))
def frB (frees : List Str) (K : PySem.W.Frag) : Bool := frees.all fun x => decide (PySem.W.nsIn K mainGlobals x = some none)
def clB (cls : List (Str × List Str)) (K : PySem.W.Frag) : Bool := cls.all fun c => decide (PySem.W.nsIn K mainGlobals c.1 = some (some (.ref (He.ga K c.1)))) && ((He.Fa.cls c.1).ok K && c.2.all fun f => decide (PySem.W.findIn K (.ref (He.ga K c.1)) f = some none))
def sgs : List He.Dv := [.str ">", .str ">=", .str "="]
def sgB (K : PySem.W.Frag) : Bool := decide (PySem.W.nsIn K mainGlobals "SIGNS" = some (some (.ref (He.ga K "SIGNS")))) && He.tupB K "SIGNS" sgs
structure Ask where
  frees : List Str
  exq : List Str
  cls : List (Str × List Str)
  sgq : Bool
structure Fx (fa : List He.Fa) (fn : List He.DefD) (q : Ask) (K : PySem.W.Frag) (mg : Str → Option Value) : Prop where
  says : He.SaysD fa fn K
  ns : ∃ h : Heap, K.In h ∧ h.Ns mainGlobals mg
  frs : frB q.frees K = true
  exs : exB q.exq K = true
  clss : clB q.cls K = true
  sgn : q.sgq = true → sgB K = true
def exM (q : Ask) (K : PySem.W.Frag) : Bool := frB q.frees K && (exB q.exq K && (clB q.cls K && (!q.sgq || sgB K)))
section
variable {fa : List He.Fa} {fn : List He.DefD} {q : Ask} {K : PySem.W.Frag} {mg : Str → Option Value}
theorem fx_of {h : Heap} (X : K.In h) (G : h.Ns mainGlobals mg) (c : He.SaysD fa fn K) (e : exM q K = true) : Fx fa fn q K mg := by
  unfold exM at e
  simp only [Bool.and_eq_true] at e
  refine ⟨c, ⟨h, X, G⟩, e.1, e.2.1, e.2.2.1, fun z => ?_⟩
  · have := e.2.2.2
    rw [z] at this
    simpa using this
theorem Fx.fr (G : Fx fa fn q K mg) (x : Str) (hx : x ∈ q.frees) : mg x = none := by
  obtain ⟨h, X, N⟩ := G.ns
  have z := List.all_eq_true.mp G.frs x hx
  exact PySem.W.mg_none_of X N (of_decide_eq_true z)
theorem Fx.glo (G : Fx fa fn q K mg) (i : Nat) {x : Str} (h : fa[i]? = some (.glo x)) : mg x = some (.ref (He.ga K x)) := by
  obtain ⟨hp, X, N⟩ := G.ns
  exact He.glo_ok X N (G.says.fact i h)
theorem Fx.def_ (G : Fx fa fn q K mg) (i : Nat) {d : He.DefD} (h : fn[i]? = some d) (h1 : d.dfl = []) (h2 : d.kwd = []) : ∃ fd, FunD K d.name d.qual d.params d.body d.scope [] [] (He.fAd K d.at_) fd := by
  obtain ⟨fd, F⟩ := G.says.def_ i h
  unfold He.DefD.dvs He.DefD.kws at F
  rw [h1, h2] at F
  exact ⟨fd, F⟩
theorem Fx.exAll (G : Fx fa fn q K mg) {c : Str} (hc : c ∈ q.exq) : mg c = some (.ref (He.ga K c)) ∧ (He.Fa.exc c).ok K = true ∧ ExcC K (He.ga K c) ∧ PySem.W.exmOne K (.ref (He.ga K c)) (.ref (He.ga K "ScaleError")) = some true ∧
    PySem.W.kitOne K (.ref (He.ga K c)) (.type "ValueError") = some true ∧ ∀ y ∈ q.exq, PySem.W.kitOne K (.ref (He.ga K c)) (.ref (He.ga K y)) = some (c == y) := by
  obtain ⟨hp, X, N⟩ := G.ns
  have z := List.all_eq_true.mp G.exs c hc
  simp only [Bool.and_eq_true, decide_eq_true_eq] at z
  obtain ⟨z1, z2, z3, z4, z5, z6⟩ := z
  exact ⟨PySem.W.mg_of X N z1, z2, exC1_ok z3, z4, z5, fun y hy => of_decide_eq_true (List.all_eq_true.mp z6 y hy)⟩
theorem Fx.exc (G : Fx fa fn q K mg) {X : Cx} (x : Str) (hx : x ∈ q.exq) (hK : X.K = K := by rfl) (hm : X.mg = mg := by rfl) : ExcF X x := by
  subst hK hm
  obtain ⟨z1, z2, _⟩ := G.exAll hx
  obtain ⟨e1, e2, e3, e4⟩ := He.exc_ok z2
  exact ⟨_, z1, e1, e2, raises_own e3 e4⟩
theorem Fx.exm (G : Fx fa fn q K mg) (hq : q.exq = excs) {X : Cx} (hK : X.K = K := by rfl) (hm : X.mg = mg := by rfl) : ∀ w ∈ excs, ∃ C, X.mg w = some (.ref C) ∧ PySem.W.exmOne X.K (.ref C) (.ref (He.ga K "ScaleError")) = some true := fun w hw => by
  subst hK hm
  obtain ⟨z1, _, _, z4, _⟩ := G.exAll (hq ▸ hw)
  exact ⟨_, z1, z4⟩
theorem Fx.names (G : Fx fa fn q K mg) (hq : q.exq = excs) (i : Nat) (h : fa[i]? = some (.glo "ScaleError")) {X : Cx} (hg : Gl X "ScaleError" := by rfl) (hm : X.mg = mg := by rfl) : Names X "ScaleError" (.ref (He.ga K "ScaleError")) := by
  subst hm
  exact ⟨hg, by decide, .inl (G.glo i h)⟩
theorem Fx.isE (G : Fx fa fn q K mg) (hq : q.exq = excs) {X : Cx} {E : XK} {a : Expr} {p p2 pos : Pos} {f : XE} {y : Str} (hy : y ∈ excs) (ha : JE X E a f) (hi : mg "isinstance" = none) (hK : X.K = K := by rfl) (hm : X.mg = mg := by rfl) (hgy : Gl X y := by rfl) (hdb : (y == ("__debug__" : Str)) = false := by decide)
    (hg : Gl X "isinstance" := by rfl) (hv : (y == "ValueError") = false := by decide) (he : starEach [a, .Name y p2] X.env = (false, eval a X.env) :: starEach [.Name y p2] X.env := by rfl) (hpl : (backTo pos (starEach [.Name y p2] X.env)).any (·.1) = false := by rfl) :
    JE X E (.Call (.Name "isinstance" p) [a, .Name y p2] [] pos) (eIsE (excIs y) excs f) := by
  subst hK hm
  refine je_isE (cV := .ref (He.ga X.K y)) (cv := .ref (He.ga X.K y)) ha (pe_glob hgy (G.exAll (hq ▸ hy)).1 rfl hdb) (fun u r => r) (fun w hw C hC => ?_) hi hg he hpl
  obtain ⟨z1, _, z3, _, _, z6⟩ := G.exAll (hq ▸ hw)
  rw [z1] at hC; cases hC
  refine ⟨z3, ?_⟩
  rw [z6 y (hq ▸ hy)]
  unfold excIs
  rw [hv, Bool.false_or]
theorem Fx.isV (G : Fx fa fn q K mg) (hq : q.exq = excs) {X : Cx} {E : XK} {a : Expr} {p p2 pos : Pos} {f : XE} (ha : JE X E a f) (hi : mg "isinstance" = none) (hv : mg "ValueError" = none) (hK : X.K = K := by rfl) (hm : X.mg = mg := by rfl) (hgy : Gl X "ValueError" := by rfl)
    (hg : Gl X "isinstance" := by rfl) (he : starEach [a, .Name "ValueError" p2] X.env = (false, eval a X.env) :: starEach [.Name "ValueError" p2] X.env := by rfl) (hpl : (backTo pos (starEach [.Name "ValueError" p2] X.env)).any (·.1) = false := by rfl) :
    JE X E (.Call (.Name "isinstance" p) [a, .Name "ValueError" p2] [] pos) (eIsE (excIs "ValueError") excs f) := by
  subst hK hm
  refine je_isE (cV := .ty "ValueError") (cv := .type "ValueError") ha (pe_bltn hgy hv (by decide +kernel) rfl) (fun u r => r) (fun w hw C hC => ?_) hi hg he hpl
  obtain ⟨z1, _, z3, _, z5, _⟩ := G.exAll (hq ▸ hw)
  rw [z1] at hC; cases hC
  exact ⟨z3, z5⟩
end
section
variable {fa : List He.Fa} {fn : List He.DefD} {q : Ask} {P : Program} {w : World} {K : PySem.W.Frag} {mg : Str → Option Value} {base : Heap}
theorem Fx.signs (G : Fx fa fn q K mg) (hq : q.sgq = true) {X : Cx} {E : XK} {pos : Pos} (hg : Gl X "SIGNS" := by rfl) (hK : X.K = K := by rfl) (hm : X.mg = mg := by rfl) : JE X E (.Name "SIGNS" pos) (eC (.tup [.str ">", .str ">=", .str "="])) := by
  subst hK hm
  obtain ⟨hp, Y, N⟩ := G.ns
  have z := G.sgn hq
  unfold sgB at z
  rw [Bool.and_eq_true, decide_eq_true_eq] at z
  refine je_const (pe_glob hg (PySem.W.mg_of Y N z.1) (v := .ref (He.ga X.K "SIGNS")) rfl) fun Fz ρ => ?_
  rw [Rep]
  exact ⟨_, _, rfl, He.tupB_ok z.2 Fz, (by decide : 3 ≤ sizeLine), RepL.cons (by rw [Rep]; rfl) (RepL.cons (by rw [Rep]; rfl) (RepL.cons (by rw [Rep]; rfl) RepL.nil))⟩
end
section
variable {P : Program} {w : World} {K : PySem.W.Frag} {mg : Str → Option Value} {base : Heap} {N : List Str} {qual : Str} {scope : Scope} {f : Addr} {cdv : Value} {A : Around} {outer : List Env} {s : Shared} {H : Hp} {E : XK}
theorem ctx_tk : L2.Takes (cxOf (L2.CX P w) P w K mg base N qual scope f cdv A outer s H E) (fun cls d _ H => E cls d H) := takes_of rfl rfl rfl rfl
theorem ctx_px : Passes (L2.CX P w) (cxOf (L2.CX P w) P w K mg base N qual scope f cdv A outer s H E) E := passes_call ctx_tk fun _ _ _ _ h => h
theorem ctx_po : PassesOwn (model P w) (cxOf (L2.CX P w) P w K mg base N qual scope f cdv A outer s H E).A (cxOf (L2.CX P w) P w K mg base N qual scope f cdv A outer s H E).env (cxOf (L2.CX P w) P w K mg base N qual scope f cdv A outer s H E).xe := passes_of (X := cxOf (L2.CX P w) P w K mg base N qual scope f cdv A outer s H E) rfl
end
theorem law_sp {K : PySem.W.Frag} {mg : Str → Option Value} {g : Fn} {H : Hp} {a : Addr} {ns : List Int} (hS : SqL K H a (ns.map V.int)) (hl : ns.length ≤ sizeLine) (h : ∃ st, g [.scr ns] [] = .ok (.bl true) st) :
    spF K mg 1 g [.ref a] H (fun v _ => v = .bl true) E0 := by
  obtain ⟨st, e⟩ := h
  have rl : Rel K mg (fun _ => none) H [] [] H := ⟨fun _ _ z => (by cases z), fun _ _ z => z, rfl, fun k a x z => (by cases z), fun k a x z => (by cases z), List.nodup_nil⟩
  refine ⟨rfl, fun _ => none, H, [], [], [.scr ns], rl, RepL.cons (by rw [Rep]; exact ⟨a, rfl, hS, hl⟩) RepL.nil, ?_⟩
  rw [e]
  intro F' r' H' _ _ v' rv
  rw [Rep] at rv
  exact rv
theorem u65 {k : Nat} {A : Around} (hr : Room k A) : A.units + 65 < cLine := by have := hr.un; omega
theorem fn_calm {P : Program} {w : World} {K : PySem.W.Frag} {mg : Str → Option Value} {base : Heap} {k n : Nat} {f : Addr} {fd : FuncData} {ps : List Str} {g : Fn} (F : FnOk P w K mg base (L2.CX P w) k f fd ps (spF K mg n g)) :
    FnOk P w K mg base CX0 k f fd ps (fun vs H Q _ => spF K mg n g vs H Q E0) := by
  refine ⟨fun vs H Q E h => F.len vs H Q E0 h, fun A outer s H args us vs Q E hr he hb hv hs => ?_⟩
  refine codeAny_mono (F.run A outer s H args us vs Q E0 hr he hb hv hs) fun r s' hq => ?_
  cases r with
  | ok fl => cases fl <;> exact hq
  | error e =>
    obtain ⟨_, _, _, _, _, _, _, _, _, _, _, _, z⟩ := hq
    exact z.elim
end Lq
end
section
set_option Elab.async false
set_option linter.all false
set_option maxRecDepth 10000
namespace PySem.W
open PySem PySem.Calls PyProof.Rows PySem.SeqAt
section
variable {prog : Program} {w : World} {A : Around} {E : Value → Shared → Prop} {s : Shared}
theorem oneLt_tups {xs ys : List PyData} {a b : Value} {as bs : List Addr} {Q : Bool → Shared → Prop} (ra : Reads s.heap a (.tuple xs) as) (rb : Reads s.heap b (.tuple ys) bs) (h : alike (.tuple xs) (.tuple ys) = true)
    (hu : A.units + min (PyData.depth (.tuple xs)) (PyData.depth (.tuple ys)) < cLine) (hq : Q (dataLt (.tuple xs) (.tuple ys)) s) : wpAny (model prog w) A (oneLt' true a b) Q E s := by
  have hal : alikeAll xs ys = true := by simpa [alike] using h
  cases ra with
  | @tuple l o vs n _ as₁ h1 h2 h3 h4 =>
    cases rb with
    | @tuple l' o' vs' n' _ bs₁ k1 k2 k3 k4 =>
      have n1 : vs.size = xs.length := by simpa using ReadsAll.length _ _ _ h4
      have n2 : vs'.size = ys.length := by simpa using ReadsAll.length _ _ _ k4
      rw [dataLt_tuple, ← firstLt_toks xs ys hal, ← n1, ← n2] at hq
      rw [oneLt'_eq]
      simp only [if_true]
      refine wpAny_bind (wpAny_cRoomFor (room_here hu) ?_)
      obtain ⟨cls, dd, data, sl⟩ := o
      obtain ⟨cls', dd', data', sl'⟩ := o'
      simp only at h2 h3 k2 k3
      subst h2 h3 k2 k3
      refine wpAny_bind (wpAny_callSpecialIfBound?_slot (T := "tuple") ⟨_, h1, rfl⟩ F.slot_tuple_lt (call_meets F.slot_tuple_lt ⟨_, h1, rfl⟩ F.entry_tuple_lt (F.args_tuple_lt_2 _ _)
        (tuple_ltAt l l' vs vs' n n' dd dd' sl sl' (pairEq xs ys) (fun j => dataLt (xs.getD j .none) (ys.getD j .none))) ⟨h1, k1, fun j j1 j2 => ?_, fun j j1 j2 hj => ?_, ?_⟩))
      · have := eqAt_alikeAll xs ys A.in1 s vs.toList vs'.toList _ _ h4 k4 hal (room_in hu) j (by simpa using j1) (by simpa using j2)
        simpa using this
      · have := rcLt_alikeAll xs ys A.in1 s vs.toList vs'.toList _ _ h4 k4 hal (room_in hu) j (by simpa using j1) (by simpa using j2) hj
        simpa using this
      · exact wpAny_truthy_bool hq
theorem firsts_any : ∀ (vs : List Value) (ds : List PyData) {Q : List (Option Value) → Shared → Prop}, EachIs (fun v d => ∃ as, Reads s.heap v d as) vs ds → (∀ d, d ∈ ds → ∃ xs, d = .tuple xs) → (∀ fs : List (Option Value), fs.length = vs.length → (∀ d r, ds = d :: r → d = .tuple [] → ∃ fr, fs = none :: fr) → Q fs s) → wpAny (model prog w) A (vs.mapM firstOfTuple') Q E s
  | _, _, Q, .nil, _, h => by rw [List.mapM_nil]; exact wpAny_pure (h [] rfl (fun d r e => by cases e))
  | v :: vs, d :: ds, Q, .cons ⟨as, ra⟩ t, hd, h => by
    rw [List.mapM_cons]
    obtain ⟨xs, rfl⟩ := hd _ (List.mem_cons_self ..)
    cases ra with
    | @tuple l o its n _ as₁ h1 h2 h3 h4 =>
      refine wpAny_bind ?_
      rw [kas_first_eq]
      refine wpAny_bind (Looks.here (show Looks _ s.heap (typeOf (.ref l)) o.cls from (Looks.ld h1).andThen .now) ?_)
      rw [h2, if_neg (by first | decide | simp)]
      refine wpAny_bind (listItems_at h1 h3 (wpAny_pure ?_))
      refine wpAny_bind (firsts_any vs ds t (fun d hm => hd d (List.mem_cons_of_mem _ hm)) fun fs hl hf => wpAny_pure (h _ (by simp [hl]) fun d r e1 e2 => ?_))
      cases e1
      cases e2
      have : its.toList = [] := by
        cases q : its.toList with
        | nil => rfl
        | cons z zs => rw [q] at h4; cases h4
      have e0 : its[0]? = none := by rw [← Array.getElem?_toList, this]; rfl
      exact ⟨fs, by rw [e0]⟩
theorem SortsAt.tups0 {vs : List Value} {ds : List PyData} (e : EachIs (fun v d => ∃ as, Reads s.heap v d as) vs ds) (hal : AllAlike ds) (ht : ∀ d, d ∈ ds → ∃ xs, d = .tuple xs) (h0 : ∃ r, ds = .tuple [] :: r) (hu : ∀ d, d ∈ ds → A.units + d.depth < cLine) : SortsAt prog w A s (dataKind s.heap ds) vs := by
  have room : ∀ {d d' : PyData}, d ∈ ds → A.units + min d.depth d'.depth < cLine := fun {d d'} hd => Nat.lt_of_le_of_lt (Nat.add_le_add_left (Nat.min_le_left _ _) _) (hu d hd)
  refine ⟨fun v hv => ?_, oneType', ?_, fun h2 E Q hq => ?_⟩
  · obtain ⟨d, hd, as, r⟩ := e.left v hv
    exact ⟨_, dataKind_some hal hd r⟩
  · intro E x y a b Q ha hb hq
    obtain ⟨d, as, hd, ra, rfl⟩ := dataKind_inv ha
    obtain ⟨d', as', hd', rb, rfl⟩ := dataKind_inv hb
    rw [keyLt'_oneType]
    obtain ⟨xs, rfl⟩ := ht d hd
    obtain ⟨ys, rfl⟩ := ht d' hd'
    exact oneLt_tups ra rb (hal _ hd _ hd') (room hd) hq
  · obtain ⟨r, hr⟩ := h0
    rw [keyKind'_eq, List.mapM_toArray, map_eq_pure_bind]
    refine wpAny_bind (wpAny_bind (firsts_any vs ds e ht fun fs hl hf => wpAny_pure ?_))
    obtain ⟨fr, rfl⟩ := hf _ _ hr rfl
    rw [if_neg (by simp), if_neg (by simp)]
    rw [oneTypeOnly'_eq, List.mapM_toArray, map_eq_pure_bind]
    refine wpAny_bind (wpAny_bind (wpAny_bind (kas_mapM (r := Value.type "tuple") _ (fun v hv Q' hq => ?_) (wpAny_pure ?_))))
    · obtain ⟨d, hd, as, r⟩ := e.left v hv
      obtain ⟨xs, rfl⟩ := ht d hd
      exact (looks_reads r).here hq
    · have hall : ((List.map (fun _ => Value.type "tuple") vs).toArray.all fun x => x == Value.type "tuple") = true := by
        simp only [List.all_toArray, List.all_map, List.all_eq_true]
        intro _ _
        exact beq_self_eq_true _
      have h0 : (List.map (fun _ => Value.type "tuple") vs).toArray[0]? = some (Value.type "tuple") := by
        match vs, h2 with
        | _ :: _, _ => simp
      rw [h0]
      simp only [hall, if_true]
      exact wpAny_pure (wpAny_pure hq)
end
end PySem.W
end
section
set_option Elab.async false
set_option linter.all false
set_option maxRecDepth 10000
namespace Lq
open PySem PySem.Spec PyProof.Rows L2 PySem.W
mutual
/-- can be compared -/
def palk : PV → PV → Bool
  | .int _, .int _ => true
  | .str _, .str _ => true
  | .tup xs, .tup ys => palks xs ys
  | _, _ => false
def palks : List PV → List PV → Bool
  | x :: xs, y :: ys => palk x y && palks xs ys
  | _, _ => true
end
mutual
def plt : PV → PV → Bool
  | .int i, .int j => decide (i < j)
  | .str x, .str y => decide (x.cps.toList < y.cps.toList)
  | .tup xs, .tup ys => plts xs ys
  | _, _ => false
def plts : List PV → List PV → Bool
  | [], [] => false
  | [], _ :: _ => true
  | _ :: _, [] => false
  | x :: xs, y :: ys => if peq x y = true then plts xs ys else plt x y
end
mutual
theorem alike_of : ∀ (p q : PV), palk p q = true → alike (toD p) (toD q) = true
  | p, q, h => by
    cases p <;> cases q <;> first
      | (simp [palk] at h; done)
      | (unfold toD alike; rfl)
      | (rename_i xs ys; rw [palk] at h; unfold toD alike; exact alike_ofs xs ys h)
theorem alike_ofs : ∀ (ps qs : List PV), palks ps qs = true → alikeAll (toDs ps) (toDs qs) = true
  | [], [], _ => by unfold toDs alikeAll; rfl
  | [], _ :: _, _ => by unfold toDs; simp [alikeAll]
  | _ :: _, [], _ => by unfold toDs; simp [alikeAll]
  | x :: xs, y :: ys, h => by
    rw [palks, Bool.and_eq_true] at h
    unfold toDs alikeAll
    rw [alike_of x y h.1, alike_ofs xs ys h.2]; rfl
end
mutual
theorem plt_of : ∀ (p q : PV), palk p q = true → noScr p = true → noScr q = true → dataLt (toD p) (toD q) = plt p q
  | p, q, h, hp, hq => by
    cases p <;> cases q <;> first
      | (simp [palk] at h; done)
      | (unfold toD plt; exact dataLt_int _ _)
      | (unfold toD plt; exact dataLt_str _ _)
      | (rename_i xs ys; rw [palk] at h; rw [noScr] at hp hq; unfold toD plt; rw [dataLt_tuple]; exact plts_of xs ys h hp hq)
theorem plts_of : ∀ (ps qs : List PV), palks ps qs = true → noScrs ps = true → noScrs qs = true → PyProof.Rows.lexLt itemOrd (keyToksAll (toDs ps)) (keyToksAll (toDs qs)) = plts ps qs
  | [], [], _, _, _ => by simp only [toDs, keyToksAll, plts]; exact lex_irrefl _
  | [], y :: ys, _, _, _ => by
    simp only [toDs, plts, toks_all_cons, keyToksAll]
    rw [lex_diff (O := itemOrd) (by simp)]; rfl
  | x :: xs, [], _, _, _ => by
    simp only [toDs, plts, toks_all_cons, keyToksAll]
    rw [lex_diff (O := itemOrd) (by simp)]; rfl
  | x :: xs, y :: ys, h, hp, hq => by
    rw [palks, Bool.and_eq_true] at h
    rw [noScrs, Bool.and_eq_true] at hp hq
    have e := eqv_toD x y hp.1 hq.1
    rw [plts]
    cases w : peq x y with
    | true =>
      rw [if_pos rfl]
      unfold toDs
      rw [dataLt_all_yes (alike_of x y h.1) (by rw [e, w]), plts_of xs ys h.2 hp.2 hq.2]
    | false =>
      rw [if_neg (by simp)]
      unfold toDs
      rw [dataLt_all_no (alike_of x y h.1) (by rw [e, w]), plt_of x y h.1 hp.1 hq.1]
end
mutual
theorem peq_same : ∀ (p q : PV), palk p q = true → peq p q = true → p = q
  | p, q, h, e => by
    cases p <;> cases q <;> first
      | (simp [palk] at h; done)
      | (simp [peq] at e; rw [e])
      | (rename_i xs ys; rw [palk] at h; rw [peq] at e; rw [peqs_same xs ys h e])
theorem peqs_same : ∀ (ps qs : List PV), palks ps qs = true → peqs ps qs = true → ps = qs
  | [], [], _, _ => rfl
  | [], _ :: _, _, e => by simp [peqs] at e
  | _ :: _, [], _, e => by simp [peqs] at e
  | x :: xs, y :: ys, h, e => by
    rw [palks, Bool.and_eq_true] at h
    rw [peqs, Bool.and_eq_true] at e
    rw [peq_same x y h.1 e.1, peqs_same xs ys h.2 e.2]
end
def pins (x : PV) : List PV → List PV
  | [] => [x]
  | y :: r => if plt y x = true then y :: pins x r else x :: y :: r
def psort : List PV → List PV
  | [] => []
  | x :: xs => pins x (psort xs)
theorem pins_perm (x : PV) : ∀ l, (pins x l).Perm (x :: l)
  | [] => List.Perm.refl _
  | y :: r => by
    rw [pins]
    split
    · exact ((pins_perm x r).cons y).trans (List.Perm.swap x y r)
    · exact List.Perm.refl _
theorem psort_perm : ∀ l, (psort l).Perm l
  | [] => List.Perm.refl _
  | x :: xs => (pins_perm x _).trans ((psort_perm xs).cons x)
def palkA (xs : List PV) : Bool := xs.all fun x => noScr x && (dOk 50 x && xs.all fun y => palk x y)
def isTup : PV → Bool
  | .tup _ => true
  | _ => false
def isTupC : PV → Bool
  | .tup (_ :: _) => true
  | _ => false
def srtK (xs : List PV) : Bool := xs.all isTupC || (xs.all fun x => !isTup x) || (match xs with
  | .tup [] :: _ => xs.all isTup
  | _ => false)
def srtOk (xs : List PV) : Bool := palkA xs && srtK xs
theorem palkA_at {xs : List PV} (h : palkA xs = true) {x : PV} (hx : x ∈ xs) : noScr x = true ∧ dOk 50 x = true ∧ ∀ y, y ∈ xs → palk x y = true := by
  unfold palkA at h
  have := List.all_eq_true.mp h x hx
  rw [Bool.and_eq_true, Bool.and_eq_true] at this
  exact ⟨this.1, this.2.1, fun y hy => List.all_eq_true.mp this.2.2 y hy⟩
theorem toks_inj {p q : PV} (h : palk p q = true) (hp : noScr p = true) (hq : noScr q = true) (e : keyToks (toD p) = keyToks (toD q)) : p = q := by
  refine peq_same p q h ?_
  rw [← eqv_toD p q hp hq]
  cases w : PyData.eqv (toD p) (toD q) with
  | true => rfl
  | false =>
    have a := (toks_eqv _ _ (alike_of p q h)).2 w
    have a1 := a [.inl 0] [.inl 1]
    have a2 := a [] []
    rw [e, lex_pre] at a1
    rw [e, lex_pre] at a2
    rw [← a2] at a1
    exact absurd a1 (by decide)
theorem dle_iff {xs : List PV} (h : palkA xs = true) {x y : PV} (hx : x ∈ xs) (hy : y ∈ xs) : dataLe false toD x y = !plt y x := by
  obtain ⟨a1, _, a3⟩ := palkA_at h hx
  obtain ⟨b1, _, b3⟩ := palkA_at h hy
  rw [← plt_of y x (b3 x hx) b1 a1]
  rfl
theorem sort_eq {xs : List PV} (h : palkA xs = true) : xs.mergeSort (dataLe false toD) = psort xs := by
  have tr : ∀ a b c : PV, dataLe false toD a b = true → dataLe false toD b c = true → dataLe false toD a c = true := fun a b c => by
    show (!PyProof.Rows.lexLt itemOrd (keyToks (toD b)) (keyToks (toD a))) = true → (!PyProof.Rows.lexLt itemOrd (keyToks (toD c)) (keyToks (toD b))) = true → (!PyProof.Rows.lexLt itemOrd (keyToks (toD c)) (keyToks (toD a))) = true
    intro x y
    cases q : PyProof.Rows.lexLt itemOrd (keyToks (toD c)) (keyToks (toD a)) with
    | false => rfl
    | true => rcases lex_negTrans _ (keyToks (toD b)) _ q with z | z <;> simp_all
  have tot : ∀ a b : PV, (dataLe false toD a b || dataLe false toD b a) = true := fun a b => by
    show ((!PyProof.Rows.lexLt itemOrd (keyToks (toD b)) (keyToks (toD a))) || (!PyProof.Rows.lexLt itemOrd (keyToks (toD a)) (keyToks (toD b)))) = true
    cases q : PyProof.Rows.lexLt itemOrd (keyToks (toD b)) (keyToks (toD a)) with
    | false => rfl
    | true =>
      cases q2 : PyProof.Rows.lexLt itemOrd (keyToks (toD a)) (keyToks (toD b)) with
      | false => rfl
      | true =>
        have := lex_trans _ _ _ q q2
        rw [lex_irrefl] at this
        cases this
  have s1 : (xs.mergeSort (dataLe false toD)).Pairwise fun a b => dataLe false toD a b = true := List.pairwise_mergeSort tr tot xs
  have ins : ∀ (x : PV) (l : List PV), (∀ y, y ∈ x :: l → y ∈ xs) → (l.Pairwise fun a b => dataLe false toD a b = true) → (pins x l).Pairwise fun a b => dataLe false toD a b = true := by
    intro x l
    induction l with
    | nil => intro _ _; exact List.pairwise_singleton _ _
    | cons y r ih =>
      intro hm hs
      obtain ⟨hy, hr⟩ := List.pairwise_cons.mp hs
      rw [pins]
      have hx := hm x (by simp)
      have hym := hm y (by simp)
      split
      · rename_i c
        refine List.pairwise_cons.mpr ⟨fun z hz => ?_, ih (fun z hz => hm z (by simp only [List.mem_cons] at hz ⊢; rcases hz with z | z <;> simp [z])) hr⟩
        rcases List.mem_cons.mp ((pins_perm x r).mem_iff.mp hz) with e | hz
        · subst e
          rcases Bool.or_eq_true _ _ ▸ tot y z with w | w
          · exact w
          · rw [dle_iff h hx hym, c] at w; cases w
        · exact hy z hz
      · rename_i c
        refine List.pairwise_cons.mpr ⟨fun z hz => ?_, hs⟩
        have w : dataLe false toD x y = true := by rw [dle_iff h hx hym]; simpa using c
        rcases List.mem_cons.mp hz with e | hz
        · rw [e]; exact w
        · exact tr _ _ _ w (hy z hz)
  have s2 : ∀ l : List PV, (∀ y, y ∈ l → y ∈ xs) → (psort l).Pairwise fun a b => dataLe false toD a b = true := by
    intro l
    induction l with
    | nil => intro _; exact List.Pairwise.nil
    | cons x r ih =>
      intro hm
      refine ins x _ (fun y hy => hm y ?_) (ih fun y hy => hm y (by simp [hy]))
      rcases List.mem_cons.mp hy with e | hy
      · simp [e]
      · exact List.mem_cons_of_mem _ ((psort_perm r).mem_iff.mp hy)
  refine List.Perm.eq_of_pairwise (fun a b ha hb h1 h2 => ?_) s1 (s2 xs fun _ h => h) ((List.mergeSort_perm xs _).trans (psort_perm xs).symm)
  have ha := (List.mergeSort_perm xs _).mem_iff.mp ha
  have hb := (psort_perm xs).mem_iff.mp hb
  obtain ⟨a1, _, a3⟩ := palkA_at h ha
  obtain ⟨b1, _, b3⟩ := palkA_at h hb
  refine toks_inj (a3 b hb) a1 b1 (lex_total (O := itemOrd) _ _ ?_ ?_)
  · rw [dle_iff h hb ha, ← plt_of a b (a3 b hb) a1 b1] at h2
    simpa [dataLt] using h2
  · rw [dle_iff h ha hb, ← plt_of b a (b3 a ha) b1 a1] at h1
    simpa [dataLt] using h1
theorem toDs_map : ∀ ps : List PV, toDs ps = ps.map toD
  | [] => by unfold toDs; rfl
  | x :: xs => by unfold toDs; rw [toDs_map xs]; rfl
theorem reads_up {h h' : Heap} (k : ∀ b o, h.get? b = some o → h'.get? b = some o) : ∀ (d : PyData) (v : Value) (as : List Addr), alike d d = true → Reads h v d as → Reads h' v d as := by
  have key : (∀ d : PyData, ∀ (v : Value) (as : List Addr), alike d d = true → Reads h v d as → Reads h' v d as) ∧ True := by
    refine ⟨?_, trivial⟩
    intro d
    refine PyData.rec (motive_1 := fun d => ∀ (v : Value) (as : List Addr), alike d d = true → Reads h v d as → Reads h' v d as) (motive_2 := fun ds => ∀ (vs : List Value) (as : List Addr), alikeAll ds ds = true → ReadsAll h vs ds as → ReadsAll h' vs ds as)
      (motive_3 := fun _ => True) (motive_4 := fun _ => True) ?_ ?_ ?_ ?_ ?_ ?_ ?_ ?_ ?_ ?_ ?_ ?_ d
    · intro v as _ r; cases r; exact .none
    · intro b v as _ r; cases r; exact .bool _
    · intro b v as _ r; cases r; exact .int _ _
    · intro b v as _ r; cases r; exact .str _ _
    · intro xs ih v as hal r
      cases r with
      | list h1 h2 h3 h4 => exact .list (k _ _ h1) h2 h3 (ih _ _ (by simpa [alike] using hal) h4)
    · intro xs ih v as hal r
      cases r with
      | tuple h1 h2 h3 h4 => exact .tuple (k _ _ h1) h2 h3 (ih _ _ (by simpa [alike] using hal) h4)
    · intro _ _ v as hal _; simp [alike] at hal
    · intro vs as _ r; cases r; exact .nil
    · intro d ds ih ihs vs as hal r
      cases r with
      | cons h1 h2 => exact .cons (ih _ _ (alike_all_cons hal).1 h1) (ihs _ _ (alike_all_cons hal).2 h2)
    · trivial
    · intros; trivial
    · intros; trivial
  exact key.1
theorem dpAll_each {X : Cx} {pins : List (Addr × Obj)} {σ : L2.St} {H : Hp} {s : Shared} (I : L2.Inv X pins σ H s) : ∀ {vs : List V} {us : List Value} {ds : List PyData}, DpAll X.K H vs ds → Vals vs us → EachIs (fun v d => ∃ as, Reads s.heap v d as) us ds
  | _, _, _, .nil, r => by cases r; exact .nil
  | _, _, _, .cons h t, r => by
    cases r with
    | cons r1 r2 => exact .cons (Dp.reads I _ _ _ h r1) (dpAll_each I t r2)
theorem each_up {h h' : Heap} (k : ∀ b o, h.get? b = some o → h'.get? b = some o) : ∀ {us : List Value} {ds : List PyData}, (∀ d, d ∈ ds → alike d d = true) → EachIs (fun v d => ∃ as, Reads h v d as) us ds → EachIs (fun v d => ∃ as, Reads h' v d as) us ds
  | _, _, _, .nil => .nil
  | _, _, hd, .cons ⟨as, r⟩ t => .cons ⟨as, reads_up k _ _ _ (hd _ (List.mem_cons_self ..)) r⟩ (each_up k (fun d m => hd d (List.mem_cons_of_mem _ m)) t)
def SortableX (ds : List PyData) : Prop := Sortable ds ∨ ((∀ d, d ∈ ds → ∃ xs, d = .tuple xs) ∧ ∃ r, ds = .tuple [] :: r)
theorem sortsX {prog : Program} {w : World} {A : Around} {s : Shared} {vs : List Value} {ds : List PyData} (e : EachIs (fun v d => ∃ as, Reads s.heap v d as) vs ds) (hal : AllAlike ds) (hk : SortableX ds) (hu : ∀ d, d ∈ ds → A.units + d.depth < cLine) : SortsAt prog w A s (dataKind s.heap ds) vs := by
  rcases hk with hk | hk
  · exact SortsAt.data e hal hk hu
  · exact SortsAt.tups0 e hal hk.1 hk.2 hu
def rSortedD (K : PySem.W.Frag) : List V → Hp → VK → Prop := fun vs H Q => ∃ (a : Addr) (xs : List V) (ps : List PV) (S : V → PV → Prop), vs = [V.ref a] ∧ SqL K H a xs ∧ DpAll K H xs (ps.map toD) ∧ PySem.Paired S xs ps ∧ AllAlike (ps.map toD) ∧ SortableX (ps.map toD) ∧ (∀ d, d ∈ ps.map toD → d.depth ≤ 50) ∧
  ∀ ys p, PySem.Paired S ys (ps.mergeSort (dataLe false toD)) → H p = none → Q (.ref p) (upd H p (.lst ys))
theorem each_pair {S : V → PV → Prop} : ∀ {xs : List V} {us : List Value} {ps : List PV}, Vals xs us → PySem.Paired S xs ps → EachIs (fun u b => ∃ x, RelV x u ∧ S x b) us ps
  | _, _, _, .nil, h => by cases h; exact .nil
  | _, _, _, .cons r rs, h => by
    cases h with
    | cons h1 h2 => exact .cons ⟨_, r, h1⟩ (each_pair rs h2)
theorem each_back {S : V → PV → Prop} : ∀ {us : List Value} {ps : List PV}, EachIs (fun u b => ∃ x, RelV x u ∧ S x b) us ps → ∃ ys, Vals ys us ∧ PySem.Paired S ys ps
  | _, _, .nil => ⟨[], .nil, .nil⟩
  | _, _, .cons ⟨x, r, h⟩ t => by
    obtain ⟨ys, a, b⟩ := each_back t
    exact ⟨x :: ys, .cons r a, .cons h b⟩
theorem each_len {α β : Type} {R : α → β → Prop} : ∀ {as : List α} {bs : List β}, EachIs R as bs → as.length = bs.length
  | _, _, .nil => rfl
  | _, _, .cons _ t => by simp [each_len t]
theorem cr_sortedD {X : Cx} (hu : X.A.units + 64 < cLine) : CallR X (.builtin "sorted") (rSortedD X.K) := by
  intro pins s σ H vs us Q I r h
  obtain ⟨a, xs, ps, S, rfl, hs, hd, hp, hal, hk, hdep, q⟩ := h
  obtain ⟨its, rv, hl, hz⟩ := I.list hs
  obtain ⟨u, rfl, ru⟩ := vals1 r
  obtain rfl : u = Value.ref a := ru
  have hself : ∀ d, d ∈ ps.map toD → alike d d = true := fun d hm => hal d hm d hm
  have er := each_up (fun b o e => sorting_copy_old (vs := its) e) hself (dpAll_each I hd rv)
  have es := each_pair rv hp
  have ub : X.A.in1.in1.units ≤ X.A.units + 2 := by
    show X.A.units + 1 + 1 ≤ _
    omega
  refine sorted_vals hl.isList (sortsX (s := { s with heap := sortingHeap (copyHeap s.heap its) (s.heap.objs.size + 1) its }) er hal hk fun d hm => ?_) (by rw [← rv.length]; exact hz) ?_
  · have := hdep d hm
    omega
  · have out := sortVals_data (h' := sortingHeap (copyHeap s.heap its) (s.heap.objs.size + 1) its) (enc := toD) false es (each_of_map toD er) hal
    obtain ⟨ys, y1, y2⟩ := each_back out
    obtain ⟨n, hn⟩ := sortedAll_at s.heap its (sortVals (dataKind (sortingHeap (copyHeap s.heap its) (s.heap.objs.size + 1) its) (ps.map toD)) false its its).toArray
    have len : ys.length = xs.length := by
      rw [y1.length, each_len out, List.length_mergeSort, ← each_len es, rv.length]
    exact ⟨.ref (s.heap.objs.size + 1), upd H (s.heap.objs.size + 1) (.lst ys), I.laid (t' := s.toks) (fun b o e => sortedAll_old e) (Nat.le_succ _) ⟨by rw [len]; exact hz, _, n, y1, hn⟩, rfl, q ys _ y2 (I.hok.fresh (Nat.le_succ _))⟩
def fSorted (a : XE) : XL := fun env st => (a env st).bind fun p s => match asL s p with
  | some xs => if srtOk xs = true then .ok (psort xs) s else .no
  | none => .no
theorem repL_pair {K : PySem.W.Frag} {mg : Str → Option Value} {Fz : Hp} {ρ : List Addr} : ∀ {ps : List PV} {vs : List V}, RepL K mg Fz ρ ps vs → PySem.Paired (fun v p => Rep K mg Fz ρ p v) vs ps
  | [], _, h => by rw [RepL] at h; subst h; exact .nil
  | _ :: _, _, h => by
    rw [RepL] at h
    obtain ⟨v, r, rfl, h1, h2⟩ := h
    exact .cons h1 (repL_pair h2)
theorem pair_repL {K : PySem.W.Frag} {mg : Str → Option Value} {Fz : Hp} {ρ : List Addr} : ∀ {ps : List PV} {vs : List V}, PySem.Paired (fun v p => Rep K mg Fz ρ p v) vs ps → RepL K mg Fz ρ ps vs
  | _, _, .nil => RepL.nil
  | _, _, .cons h t => RepL.cons h (pair_repL t)
theorem dOks_all (n : Nat) : ∀ {xs : List PV}, (∀ x, x ∈ xs → dOk n x = true) → dOks n xs = true
  | [], _ => by simp [dOks]
  | x :: xs, h => by rw [dOks, h x (by simp), dOks_all n fun y hy => h y (by simp [hy])]; rfl
theorem noScrs_all : ∀ {xs : List PV}, (∀ x, x ∈ xs → noScr x = true) → noScrs xs = true
  | [], _ => by simp [noScrs]
  | x :: xs, h => by rw [noScrs, h x (by simp), noScrs_all fun y hy => h y (by simp [hy])]; rfl
theorem toD_tup {p : PV} (hn : noScr p = true) : (∃ xs, toD p = .tuple xs) ↔ isTup p = true := by
  cases p <;> simp [toD, isTup]
theorem srt_x {xs : List PV} (h : srtOk xs = true) : AllAlike (xs.map toD) ∧ SortableX (xs.map toD) ∧ (∀ d, d ∈ xs.map toD → d.depth ≤ 50) ∧ dOks 50 xs = true ∧ noScrs xs = true := by
  unfold srtOk at h
  rw [Bool.and_eq_true] at h
  obtain ⟨h, hk⟩ := h
  refine ⟨?_, ?_, ?_, dOks_all 50 fun x hx => (palkA_at h hx).2.1, noScrs_all fun x hx => (palkA_at h hx).1⟩
  · intro d hd d' hd'
    obtain ⟨x, hx, rfl⟩ := List.mem_map.mp hd
    obtain ⟨y, hy, rfl⟩ := List.mem_map.mp hd'
    exact alike_of x y ((palkA_at h hx).2.2 y hy)
  · unfold srtK at hk
    rw [Bool.or_eq_true, Bool.or_eq_true] at hk
    rcases hk with (hk | hk) | hk
    · refine .inl (.inl fun d hd => ?_)
      obtain ⟨x, hx, rfl⟩ := List.mem_map.mp hd
      have := List.all_eq_true.mp hk x hx
      cases x with
      | tup ys =>
        cases ys with
        | nil => simp [isTupC] at this
        | cons y r => exact ⟨toD y, toDs r, by simp [toD, toDs]⟩
      | _ => simp [isTupC] at this
    · refine .inl (.inr fun d hd => ?_)
      obtain ⟨x, hx, rfl⟩ := List.mem_map.mp hd
      have a := List.all_eq_true.mp hk x hx
      have b := (palkA_at h hx).2.2 x hx
      cases x <;> simp [isTup, palk] at a b <;> simp [toD]
    · right
      split at hk
      · rename_i r
        refine ⟨fun d hd => ?_, (r.map toD), by simp [toD, toDs]⟩
        obtain ⟨x, hx, rfl⟩ := List.mem_map.mp hd
        have a := List.all_eq_true.mp hk x hx
        exact (toD_tup (palkA_at h hx).1).mpr a
      · cases hk
  · intro d hd
    obtain ⟨x, hx, rfl⟩ := List.mem_map.mp hd
    exact (lay_toD 50 x (palkA_at h hx).2.1).2
theorem jf_sorted {X : Cx} {E : XK} {a : Expr} {p pos : Pos} {fa : XE} (hu : X.A.units + 64 < cLine) (ha : JE X E a fa) (hm : X.mg "sorted" = none) (hg : Gl X "sorted" := by rfl)
    (he : starEach [a] X.env = (false, eval a X.env) :: starEach [] X.env := by rfl) (hpl : (backTo pos (starEach [] X.env)).any (·.1) = false := by rfl) : JF X E (.Call (.Name "sorted" p) [a] [] pos) (fSorted fa) := by
  obtain ⟨t, pt, s⟩ := ha
  refine ⟨_, pe_callB (cr_sortedD hu) hg hm (by decide +kernel) (pa_cons pt pa_nil he) (he := he) (hpl := hpl), fun Z Fz ρ env st σ H Q rl hh o => ?_⟩
  refine s Z Fz ρ env st σ H _ rl hh (o.seq.mono fun x s1 F1 r1 H1 _ ex1 rl1 o1 x' rx => ?_)
  split at o1
  · rename_i xs es
    split at o1
    · rename_i ok
      obtain ⟨a, ws, rfl, sq, hl, rr⟩ := asL_ok rl1 rx es
      obtain ⟨k1, k2, k3, k4, k5⟩ := srt_x ok
      have ok' := ok
      unfold srtOk at ok'
      rw [Bool.and_eq_true] at ok'
      refine ⟨a, ws, xs, _, rfl, sq, by rw [← toDs_map]; exact dp_ofs rl1.fz 50 xs k4 k5 rr, repL_pair rr, k1, k2, k3, fun ys p hy hp => ?_⟩
      rw [sort_eq ok'.1] at hy
      exact o1.here rl1 p ys hp (by rw [(psort_perm xs).length_eq]; exact hl) (pair_repL hy)
    · exact o1.elim
  · exact o1.elim
end Lq
end
section
set_option Elab.async false
set_option linter.all false
set_option maxRecDepth 100000
namespace Lq
open PySem PySem.Spec PyProof.Rows L2
variable {X : Cx}
def cOr (o o' : List PV → Store → Option PV) : List PV → Store → Option PV := fun xs st => match o xs st with
  | some z => some z
  | none => o' xs st
theorem JC.or {f : Value} {o o'} (h : JC X f o) (h' : JC X f o') : JC X f (cOr o o') := by
  obtain ⟨r, hr, sr⟩ := h
  obtain ⟨r', hr', sr'⟩ := h'
  refine ⟨_, hr.or hr', fun Z Fz ρ st H vs ps pz Q rl rp e q => ?_⟩
  unfold cOr at e
  split at e
  · rename_i z ez
    cases e
    exact .inl (sr Z Fz ρ st H vs ps _ Q rl rp ez q)
  · exact .inr (sr' Z Fz ρ st H vs ps _ Q rl rp e q)
end Lq
end
section
set_option Elab.async false
set_option linter.all false
set_option maxRecDepth 100000
namespace Lq
open PySem PySem.Spec PyProof.Rows L2
variable {X : Cx} {E : XK} {a : Expr} {p pos : Pos} {fa : XE}
end Lq
end
section
set_option Elab.async false
set_option linter.all false
set_option maxRecDepth 100000
namespace Lq
open PySem PySem.Spec PyProof.Rows L2
section
variable {prog : Program} {w : World} {A : Around} {R : Result → Shared → Prop} {I : Addr} {fp wr : List Addr} {G : Array GenState → Array GenState → Prop} {n : Nat} {P : Nat → Value → Prop} {St : Nat → Shared → Prop}
end
section
variable {prog : Program} {w : World} {A : Around} {E : Value → Shared → Prop} {s : Shared}
end
variable {X : Cx} {E : XK} {a : Expr} {fa : XE}
end Lq
end
section
set_option Elab.async false
set_option linter.all false
set_option maxRecDepth 100000
namespace Lq
open PySem PySem.Spec PyProof.Rows L2
section
variable {prog : Program} {w : World} {A : Around} {E : Value → Shared → Prop} {s : Shared} {l : Addr} {its : List Value} {ns : List Int} {Q : Value → Shared → Prop}
end
variable {X : Cx} {E : XK}
def sBar : XS := fun _ _ => .no
theorem jss_no {b : List Stmt} : JSs X E b sBar := ⟨fun _ _ _ => False, ⟨fun _ _ _ _ _ _ h => h.elim⟩, fun _ _ _ _ _ _ _ _ _ _ o => o⟩
end Lq
namespace Lq
open PySem PySem.Spec PyProof.Rows L2
variable {X : Cx}
end Lq
end
section
set_option Elab.async false
set_option linter.all false
set_option maxRecDepth 100000
namespace HT
open PySem PySem.Spec PyProof.Rows L2
section
variable {prog : Program} {w : World} {A : Around} {E : Value → Shared → Prop} {s : Shared}
end
end HT
namespace Lq
open PySem PySem.Spec PyProof.Rows L2
variable {X : Cx} {E : XK} {e o a : Expr} {fa fo : XE} {fl : XL} {p pos apos cpos : Pos}
def fListRg (f : XE) : XL := fun env st => (f env st).bind fun p s => match p with
  | .int n => if 0 ≤ n ∧ n ≤ 1000 then .ok (rng 0 n.toNat) s else .no
  | _ => .no
theorem repL_rng {K : PySem.W.Frag} {mg : Str → Option Value} {Fz : Hp} {ρ : List Addr} (n : Nat) : RepL K mg Fz ρ (rng 0 n) (rgV 0 (n : Int)) := by
  unfold rng rgV
  have e : ((n : Int) - 0).toNat = n := by omega
  rw [e]
  generalize List.range n = l
  induction l with
  | nil => exact RepL.nil
  | cons x r ih =>
    rw [List.map_cons, List.map_cons]
    exact RepL.cons (by rw [Rep]) ih
theorem jf_listRg {pr posr : Pos} (hc : X.calm = true) (ha : JE X E a fa) (hm : X.mg "list" = none) (hmr : X.mg "range" = none) (hg : Gl X "list" := by rfl) (hgr : Gl X "range" := by rfl)
    (na : starEach [a] X.env = (false, eval a X.env) :: starEach [] X.env := by rfl) (nb : starEach [.Call (.Name "range" pr) [a] [] posr] X.env = (false, eval (.Call (.Name "range" pr) [a] [] posr) X.env) :: starEach [] X.env := by rfl) : JF X E (.Call (.Name "list" p) [.Call (.Name "range" pr) [a] [] posr] [] pos) (fListRg fa) := by
  obtain ⟨t, pt, s⟩ := ha
  refine ⟨_, pe_listRg hc hg hm (prg_1 hgr hmr pt na) nb, fun Z Fz ρ env st σ H Q rl hh o => ?_⟩
  refine s Z Fz ρ env st σ H _ rl hh (o.seq.mono fun x s1 F1 r1 H1 _ ex1 rl1 o1 x' rx => ?_)
  split at o1
  · split at o1
    · rename_i n _ hn
      rw [Rep] at rx
      subst rx
      refine ⟨n, rfl, RgOk.of_le (by decide) (by omega) (by decide) (by omega), fun q hq => ?_⟩
      have e : n = ((n.toNat : Nat) : Int) := by omega
      have lr : (rng 0 n.toNat).length ≤ sizeLine := by unfold rng; rw [List.length_map, List.length_range, sizeLine_eq]; omega
      exact o1.here rl1 q _ hq lr (by rw [e, Int.toNat_natCast]; exact repL_rng _)
    · exact o1.elim
  · exact o1.elim
end Lq
end
section
set_option Elab.async false
set_option linter.all false
set_option maxRecDepth 100000
namespace Lq
open PySem PySem.Spec PyProof.Rows L2
section
variable {fa : List He.Fa} {fn : List He.DefD} {q : Ask} {own : List Str} {K : PySem.W.Frag} {mg : Str → Option Value}
variable {X : Cx} {E : XK} {a b : Expr} {p p2 pos : Pos} {f g : XE} {x : Str}
end
section
variable {X : Cx} {E : XK}
end
end Lq
end
section
set_option Elab.async false
set_option linter.all false
set_option maxRecDepth 100000
namespace Lq
open PySem PySem.Spec PyProof.Rows L2
variable {X : Cx} {E : XK} {e : Expr} {fa : XE} {pos : Pos}
end Lq
end
section
set_option Elab.async false
set_option linter.all false
set_option maxRecDepth 100000
namespace Lq
open PySem PySem.Spec PyProof.Rows L2
section
variable {K : PySem.W.Frag} {mg : Str → Option Value}
end
section
variable {X : Cx} {E : XK} {a b elt : Expr} {p pos pos2 tpos : Pos} {ifs : List Expr} {scope : Scope} {own : List (Str × Nat)} {fl : XL} {ft : PV → Ev → Store → R Ev} {tt : Ev → Store → R Bool} {fe : XE} {elts : List Expr} {kk : Nat}
end
end Lq
end
section
set_option Elab.async false
set_option linter.all false
set_option maxRecDepth 100000
namespace Lq
open PySem PySem.Spec PyProof.Rows L2
variable {X : Cx} {E : XK} {e : Expr} {fa : XE} {pos : Pos}
end Lq
end
section
set_option Elab.async false
set_option linter.all false
set_option maxRecDepth 100000
namespace Lq
open PySem PySem.Spec PyProof.Rows L2
section
variable {prog : Program} {w : World} {A : Around} {E : Value → Shared → Prop} {s : Shared}
end
section
variable {X : Cx} {E : XK} {a : Expr} {ta : TE} {fa : XE}
end
end Lq
end
section
set_option Elab.async false
set_option linter.all false
set_option maxRecDepth 100000
namespace Lq
open PySem PySem.Spec PyProof.Rows L2
section
variable {K : PySem.W.Frag} {mg : Str → Option Value} {Z Fz : Hp} {ρ : List Addr} {st : Store} {H : Hp}
end
section
variable {X : Cx} {E : XK} {o i e f value : Expr} {fd fk fx fv fa : XE} {pos pos' apos cpos p : Pos}
end
section
variable {K : PySem.W.Frag} {mg : Str → Option Value} {Z Fz : Hp} {ρ : List Addr} {st : Store} {H : Hp}
end
section
variable {X : Cx} {E : XK} {o : Expr} {fa : XE} {tg : Expr}
end
end Lq
end
section
set_option Elab.async false
set_option linter.all false
set_option maxRecDepth 100000
namespace Lq
open PySem PySem.Spec PyProof.Rows L2
mutual
/-- a value that is such a key -/
def KyV (K : PySem.W.Frag) (H : Hp) : NestedKey → V → Prop
  | .num i, v => v = .int i
  | .tup ks, v => ∃ a vs, v = .ref a ∧ SqT K H a vs ∧ KyVs K H ks vs
  | .none, _ => False
  | .text _, _ => False
def KyVs (K : PySem.W.Frag) (H : Hp) : List NestedKey → List V → Prop
  | [], vs => vs = []
  | k :: ks, vs => ∃ v r, vs = v :: r ∧ KyV K H k v ∧ KyVs K H ks r
end
section
variable {X : Cx} {pins : List (Addr × Obj)} {σ : L2.St} {H : Hp} {s : Shared}
mutual
theorem nested_of (I : Inv X pins σ H s) : ∀ (k : NestedKey) (v : V) (u : Value), KyV X.K H k v → RelV v u → NestedIs s.heap k u
  | .num i, v, u, h, r => by
    rw [KyV] at h
    subst h
    obtain ⟨t, rfl⟩ := r
    exact .int i t
  | .tup ks, v, u, h, r => by
    rw [KyV] at h
    obtain ⟨a, vs, rfl, h1, h2⟩ := h
    obtain rfl : u = Value.ref a := r
    obtain ⟨its, rv, ⟨o, e1, e2, n, e3⟩, _⟩ := I.tuple h1
    exact .tup e1 e2 e3 (by simpa using nesteds_of I ks vs its h2 rv)
  | .none, _, _, h, _ => by rw [KyV] at h; exact h.elim
  | .text _, _, _, h, _ => by rw [KyV] at h; exact h.elim
theorem nesteds_of (I : Inv X pins σ H s) : ∀ (ks : List NestedKey) (vs : List V) (us : List Value), KyVs X.K H ks vs → Vals vs us → NestedAll s.heap ks us
  | [], vs, us, h, r => by
    rw [KyVs] at h
    subst h
    cases r
    exact .nil
  | k :: ks, vs, us, h, r => by
    rw [KyVs] at h
    obtain ⟨v, w, rfl, h1, h2⟩ := h
    cases r with
    | cons r1 r2 => exact .cons (nested_of I k v _ h1 r1) (nesteds_of I ks w _ h2 r2)
end
end
structure NdR (K : PySem.W.Frag) (H : Hp) (a : Addr) (xs : List (NestedKey × Addr × V)) : Prop where
  rd : Rd H a (NdO a xs)
  sm : (a == sysModules) = false
  nd : (xs.map (·.1)).Nodup
  ky : ∀ x ∈ xs, KyV K H x.1 (.ref x.2.1) ∧ x.1.depth ≤ 8
abbrev NdP : List (NestedKey × Addr × V) → List (NestedKey × Addr × Value) → Prop := PySem.Paired fun x y => x.1 = y.1 ∧ x.2.1 = y.2.1 ∧ RelV x.2.2 y.2.2
theorem ents_of {es : List DictEntry} : ∀ {xs : List (NestedKey × Addr × V)}, PySem.Paired (fun (e : DictEntry) (x : NestedKey × Addr × V) => (∀ w : World, e.hash = x.1.hash w) ∧ e.key = .ref x.2.1 ∧ RelV x.2.2 e.val) es xs →
    ∀ (P : Program) (w : World), ∃ ys, NdP xs ys ∧ es = ys.map (entryOfKey (nestedKind P w)) := by
  intro xs h P w
  induction h with
  | nil => exact ⟨[], .nil, rfl⟩
  | @cons e x es xs h t ih =>
    obtain ⟨ys, i1, i2⟩ := ih
    refine ⟨(x.1, x.2.1, e.val) :: ys, .cons ⟨rfl, rfl, h.2.2⟩ i1, ?_⟩
    rw [List.map_cons, ← i2]
    obtain ⟨eh, ek, ev⟩ := e
    have h1 : eh = x.1.hash w := h.1 w
    have h2 : ek = Value.ref x.2.1 := h.2.1
    subst h1
    subst h2
    rfl
section
variable {X : Cx} {pins : List (Addr × Obj)} {σ : L2.St} {H : Hp} {s : Shared} {a b : Addr} {xs : List (NestedKey × Addr × V)} {k : NestedKey}
theorem NdR.raw (h : NdR X.K H a xs) (I : Inv X pins σ H s) : ∃ o es ep, s.heap.get? a = some o ∧ o.ExactDict ∧ o.data = .dict es ep ∧
    PySem.Paired (fun (e : DictEntry) (x : NestedKey × Addr × V) => (∀ w : World, e.hash = x.1.hash w) ∧ e.key = .ref x.2.1 ∧ RelV x.2.2 e.val) es.toList xs := by
  have q : ObjOk X.prog X.w H s.heap a (NdO a xs) := h.rd.ok I.hok
  exact q.1
theorem NdR.dict (h : NdR X.K H a xs) (I : Inv X pins σ H s) : ∃ ys, NdP xs ys ∧ s.heap.DictOfH (nestedKind X.prog X.w) a ys := by
  obtain ⟨o, es, ep, e1, e2, e3, e4⟩ := h.raw I
  obtain ⟨ys, p1, p2⟩ := ents_of e4 X.prog X.w
  refine ⟨ys, p1, o, es, ep, e1, e2, e3, p2, ?_, ?_⟩
  · have all : ∀ {l : List (NestedKey × Addr × V)} {m : List (NestedKey × Addr × Value)}, NdP l m → (∀ x ∈ l, KyV X.K H x.1 (.ref x.2.1) ∧ x.1.depth ≤ 8) → ∀ y ∈ m, (nestedKind X.prog X.w).is s.heap y.1 y.2.1 := by
      intro l m q
      induction q with
      | nil => intro _ y hy; exact nomatch hy
      | @cons x y l m hq t ih =>
        intro hk z hz
        rcases List.mem_cons.mp hz with e | hz
        · subst e
          obtain ⟨k1, k2⟩ := hk x List.mem_cons_self
          rw [← hq.1, ← hq.2.1]
          exact ⟨nested_of I _ _ _ k1 rfl, k2⟩
        · exact ih (fun w hw => hk w (List.mem_cons_of_mem _ hw)) z hz
    exact all p1 h.ky
  · have nd := h.nd
    have e : xs.map (·.1) = ys.map (·.1) := by
      clear h e4 p2 nd
      induction p1 with
      | nil => rfl
      | cons hq t ih => rw [List.map_cons, List.map_cons, hq.1, ih]
    rw [← e]; exact nd
end
end Lq
end
section
set_option Elab.async false
set_option linter.all false
set_option maxRecDepth 100000
namespace Lq
open PySem PySem.Spec PyProof.Rows L2
section
variable {K : PySem.W.Frag} {mg : Str → Option Value} {Z Fz : Hp} {ρ : List Addr} {st : Store} {H : Hp}
end
section
variable {K : PySem.W.Frag} {mg : Str → Option Value} {Z Fz : Hp} {ρ : List Addr} {st : Store} {H : Hp}
end
section
variable {X : Cx} {E : XK} {o i e f value : Expr} {fd fk fx fv fa : XE} {pos pos' apos cpos p : Pos} {tg : Expr}
end
section
variable {X : Cx} {pins : List (Addr × Obj)} {σ : L2.St} {H : Hp} {s : Shared} {d : Addr} {o : Obj} {xs : List (NestedKey × Addr × V)}
end
section
variable {P : Program} {w : World} {K : PySem.W.Frag} {tg : Expr} {d : Addr} {o : Obj} {es : Array DictEntry} {ep : Nat} {xs : List (NestedKey × Addr × V)}
end
section
variable {X : Cx} {E : XK} {e o tg : Expr} {td : TE} {apos cpos : Pos} {fa : XE}
end
end Lq
end
section
set_option Elab.async false
set_option linter.all false
set_option maxRecDepth 100000
namespace Lq
open PySem PySem.Spec PyProof.Rows L2
section
variable {X : Cx} {E : XK} {a b e o i fe : Expr} {es : List Expr} {p pos apos cpos : Pos} {fa fb fo ff fk : XE} {fl : XL} {x : Str}
theorem je_glo {g : Addr} (hm : X.mg x = some (.ref g)) (hg : Gl X x := by rfl) (hdb : (x == ("__debug__" : Str)) = false := by decide) : JE X E (.Name x pos) (eC (.glo x)) :=
  je_const (pe_glob hg hm (v := .ref g) rfl hdb) fun Fz ρ => by rw [Rep]; exact ⟨g, hm, rfl⟩
theorem Cl.mgE {P : Program} {w : World} {K : PySem.W.Frag} {mg : Str → Option Value} {base : Heap} {k n : Nat} {f : Fn} (c : Cl P w K mg base k x n f) : ∃ g, mg x = some (.ref g) := let ⟨a, _, _, h, _⟩ := c.ex; ⟨a, h⟩
theorem je_gloC {k n : Nat} {f : Fn} (c : Cl X.prog X.w X.K X.mg X.base k x n f) (hg : Gl X x := by rfl) (hdb : (x == ("__debug__" : Str)) = false := by decide) : JE X E (.Name x pos) (eC (.glo x)) :=
  let ⟨_, h⟩ := c.mgE; je_glo h hg hdb
def eCallV (tab : List (Str × Fn)) (n : Nat) (ff : XE) (fl : XL) : XE := fun env st => (ff env st).bind fun g s1 => match g with
  | .glo x => (match tab.lookup x with
    | some f => (fl env s1).bind fun xs s2 => if xs.length = n then f xs s2 else .no
    | none => .no)
  | _ => .no
def ClT (X : Cx) (j n : Nat) (tab : List (Str × Fn)) : Prop := ∀ x f, tab.lookup x = some f → ∃ k, k ≤ j ∧ Cl X.prog X.w X.K X.mg X.base k x n f
theorem clt_nil {j n : Nat} : ClT X j n [] := fun x f e => by cases e
theorem clt_cons {j n k : Nat} {f : Fn} {tab : List (Str × Fn)} (c : Cl X.prog X.w X.K X.mg X.base k x n f) (r : ClT X j n tab) (hk : k ≤ j := by decide) : ClT X j n ((x, f) :: tab) := fun y g e => by
  rw [List.lookup_cons] at e
  split at e
  · rename_i h
    have : y = x := by simpa using h
    cases e
    subst this
    exact ⟨k, hk, c⟩
  · exact r y g e
def tCallV (X : Cx) (tab : List (Str × Fn)) (n : Nat) (E : XK) (tf : TE) (t : TA) : TE := fun σ H Q => tf σ H fun y H1 => ∃ a x f, y = .ref a ∧ X.mg x = some (.ref a) ∧ tab.lookup x = some f ∧ t σ H1 fun vs H2 => spF X.K X.mg n f vs H2 Q E
theorem pe_callV {j n : Nat} {tab : List (Str × Fn)} {tf : TE} {t : TA} (hf : PE X fe tf) (hT : ClT X j n tab) (hr : Room j X.A) (hx : Passes (L2.CX X.prog X.w) X E) (ha : PA X (e :: es) t)
    (ht : eval (.Call fe (e :: es) [] pos) X.env = (do callWith pos (← eval fe X.env) [] (backTo pos (starEach (e :: es) X.env)) (backToKw pos (keywordEach [] X.env))) := by rfl)
    (he : starEach (e :: es) X.env = (false, eval e X.env) :: starEach es X.env := by rfl) (hpl : (backTo pos (starEach es X.env)).any (·.1) = false := by rfl) : PE X (.Call fe (e :: es) [] pos) (tCallV X tab n E tf t) := by
  refine ⟨fun pins s σ H Q I h => ?_⟩
  refine Call_ (thn (hf.run pins s σ H _ I h) fun u s1 ⟨y, H1, I1, ry, a, x, f, ey, hm, hl, q⟩ => ?_) ht
  subst ey
  obtain rfl : u = Value.ref a := ry
  obtain ⟨k, hk, c⟩ := hT x f hl
  obtain ⟨a', fd, ps, hm', hkp, hb, F⟩ := c.ex
  rw [hm] at hm'
  cases hm'
  refine PySem.W.callWith_K (h₀ := X.base) I1.ok.mod.kin hkp (thn (ha.run pos pins s1 σ H1 _ I1 q) fun us s2 ⟨vs, H2, I2, r, q2⟩ => ⟨I2.kIn, ?_⟩) he hpl
  exact run_fn (dvs := []) F (hr.mono hk) hb .nil hx I2 r (by rw [List.append_nil]; exact q2)
theorem je_callV {j n : Nat} (tab : List (Str × Fn)) (hf : JE X E fe ff) (hT : ClT X j n tab) (hr : Room j X.A) (hx : Passes (L2.CX X.prog X.w) X E) (ha : JA X E (e :: es) fl)
    (ht : eval (.Call fe (e :: es) [] pos) X.env = (do callWith pos (← eval fe X.env) [] (backTo pos (starEach (e :: es) X.env)) (backToKw pos (keywordEach [] X.env))) := by rfl)
    (he : starEach (e :: es) X.env = (false, eval e X.env) :: starEach es X.env := by rfl) (hpl : (backTo pos (starEach es X.env)).any (·.1) = false := by rfl) : JE X E (.Call fe (e :: es) [] pos) (eCallV tab n ff fl) := by
  obtain ⟨tf, pf, sf⟩ := hf
  obtain ⟨t, pt, s⟩ := ha
  refine ⟨_, pe_callV pf hT hr hx pt ht he hpl, fun Z Fz ρ env st σ H Q rl hh o => ?_⟩
  refine sf Z Fz ρ env st σ H _ rl hh (o.seq.mono fun g s1 F1 r1 H1 hq ex1 rl1 o1 g' rg => ?_)
  clear hq
  split at o1
  · rename_i y
    rw [Rep] at rg
    obtain ⟨ad, h1, rfl⟩ := rg
    split at o1
    · rename_i f hl
      refine ⟨ad, y, f, rfl, h1, hl, ?_⟩
      refine s Z F1 r1 env s1 σ H1 _ rl1 (hh.mono ex1) (o1.seq.mono fun xs s2 F2 r2 H2 hq2 ex2 rl2 o2 xs' rx => ?_)
      clear hq2
      split at o2
      · rename_i hn
        exact ⟨by rw [← rx.len]; exact hn, Z, F2, r2, s2, xs, rl2, rx, o2⟩
      · exact o2.elim
    · exact o1.elim
  · exact o1.elim
end
end Lq
namespace Lq
open PySem PySem.Spec PyProof.Rows L2
theorem u1 {k : Nat} {A : Around} (hr : Room k A) : A.units + 1 < cLine := by have := hr.un; omega
section
variable {X : Cx} {E : XK} {a : Expr} {fa : XE}
end
end Lq
end
section
set_option Elab.async false
set_option linter.all false
set_option maxRecDepth 100000
namespace Lq
open PySem PySem.Spec PyProof.Rows L2
section
variable {prog : Program} {w : World} {A : Around} {E : Value → Shared → Prop} {s : Shared}
end
section
variable {X : Cx} {E : XK} {o : Expr} {fa : XE} {p pos : Pos}
end
end Lq
end
section
set_option Elab.async false
set_option linter.all false
set_option maxRecDepth 100000
set_option maxHeartbeats 0
namespace Gk01
open PySem PySem.Spec PyProof.Rows L2 Lq
def top (i : Nat) : Stmt := PySem.Challenge.pw_lotscales_k01_argument_ends.main.body.getD i (.Pass ⟨0, 0, 0, 0⟩)
def f__law_town : Fn := runF 1
    (sRet (eOw (fAdd (eFz (fDisp (aCons (eC (.int 0)) aNil))) (eFz (fList (eVar 0))))))
def f__law_no_told : Fn := runF 2
    (sSeq (sSet 0 (eOw (fDisp (aCons (eC .non) (aCons (eC (.int 5)) (aCons (eTup (aCons (eTup (aCons (eC (.int 0)) aNil)) aNil)) (aCons (eFz (fDisp (aCons (eTup (aCons (eTup (aCons (eC (.int 0)) aNil)) (aCons (eC (.str ">")) (aCons (eTup aNil) aNil)))) aNil))) (aCons (eBin oMul (eTup (aCons (eTup (aCons (eTup (aCons (eC (.int 0)) aNil)) (aCons (eC (.str ">")) (aCons (eTup aNil) aNil)))) aNil)) (eC (.int 9))) (aCons (eTup (aCons (eTup (aCons (eTup (aCons (eC (.int 0)) aNil)) (aCons (eC (.str ">")) aNil))) aNil)) (aCons (eTup (aCons (eTup (aCons (eTup (aCons (eC (.int 0)) aNil)) (aCons (eC (.str ">")) (aCons (eTup aNil) (aCons (eTup aNil) aNil))))) aNil)) aNil))))))))))
    (sSeq (sFor (iVal (eTup (aCons (eTup (aCons (eC (.int 3)) aNil)) (aCons (eTup (aCons (eC (.int 1)) (aCons (eC (.int 0)) aNil))) (aCons (eTup (aCons (eC (.int 0)) (aCons (eC (.int 0)) aNil))) (aCons (eFz (fDisp (aCons (eC (.int 0)) aNil))) (aCons (eTup (aCons (eC (.bl true)) aNil)) (aCons (eTup (aCons (eUn oNeg (eC (.int 1))) aNil)) (aCons (eTup (aCons (eC (.str "0")) aNil)) (aCons (eC .non) (aCons (eC (.int 0)) aNil))))))))))) (gNm 1) (sSet 0 (eOw (fAdd (eFrz (eVar 0)) (eFz (fDisp (aCons (eTup (aCons (eTup (aCons (eVar 1) (aCons (eC (.str ">")) (aCons (eTup aNil) aNil)))) aNil)) (aCons (eTup (aCons (eTup (aCons (eTup aNil) (aCons (eC (.str "=")) (aCons (eVar 1) aNil)))) aNil)) aNil))))))))
    (sSeq (sFor (iVal (eTup (aCons (eC (.str "<")) (aCons (eC (.str "=>")) (aCons (eC (.str ">>")) (aCons (eC (.str "")) (aCons (eC .non) (aCons (eC (.int 1)) (aCons (eTup (aCons (eC (.str "=")) aNil)) aNil))))))))) (gNm 1) (sDrop (eLm goApp (eVar 0) (aCons (eTup (aCons (eTup (aCons (eTup (aCons (eC (.int 0)) aNil)) (aCons (eVar 1) (aCons (eTup (aCons (eC (.int 1)) aNil)) aNil)))) aNil)) aNil))))
    (sRet (eFrz (eVar 0))))))
def f__law_draw : Fn := runF 6
    (sSeq (sAsg (eBin oAdd (eBin oIx (eVar 1) (eC (.int 0))) (eC (.int 1))) (gSubL (eVar 1) (eC (.int 0))))
    (sSeq (sIf (tE (eBin oEq (eVar 0) (eFz (fDisp aNil)))) (sRet (eBin oMod (eBin oDiv (eBin oMul (eBin oMul (eBin oIx (eVar 1) (eC (.int 0))) (eBin oIx (eVar 1) (eC (.int 0)))) (eC (.int 7))) (eC (.int 3))) (eVar 2))) sNil)
    (sSeq (sSet 3 (eBin oMod (eBin oIx (eVar 1) (eC (.int 0))) (eCB oLen (aCons (eVar 0) aNil))))
    (sSeq (sSet 4 (eBin oIx (eVar 1) (eBin oAdd (eC (.int 1)) (eVar 3))))
    (sSeq (sIf (tAndF (tE (eBin oGeI (eBin oIx (eVar 0) (eVar 3)) (eBin oPow (eC (.int 10)) (eC (.int 18))))) (tE (eBin oGtI (eVar 4) (eC (.int 0))))) (sSeq (sAsg (eBin oDiv (eVar 4) (eVar 2)) (gSubL (eVar 1) (eBin oAdd (eC (.int 1)) (eVar 3))))
    (sRet (eBin oMod (eVar 4) (eVar 2)))) sNil)
    (sSeq (sSet 5 (eBin oMod (eBin oAdd (eBin oIx (eVar 0) (eVar 3)) (eBin oMul (eC (.int 104729)) (eBin oIx (eVar 1) (eC (.int 0))))) (eC (.int 4294967291))))
    (sSeq (sSet 5 (eBin oMod (eBin oPow (eVar 5) (eC (.int 5))) (eC (.int 4294967279))))
    (sRet (eBin oMod (eBin oDiv (eBin oMod (eBin oAdd (eBin oMul (eBin oDiv (eVar 5) (eC (.int 64))) (eC (.int 69621))) (eVar 5)) (eC (.int 4294967231))) (eC (.int 8))) (eVar 2))))))))))
def f__law_pick : Fn := runF 3
    (sRet (eBin oIx (eVar 2) (eCall 3 f__law_draw (aCons (eVar 0) (aCons (eVar 1) (aCons (eCB oLen (aCons (eVar 2) aNil)) aNil))))))
def f__law_scale : Fn := runF 5
    (sSeq (sSet 3 (eCall 3 f__law_pick (aCons (eVar 0) (aCons (eVar 1) (aCons (eFz (fDisp (aCons (eC (.int 2)) (aCons (eC (.int 4)) (aCons (eC (.int 9)) aNil))))) aNil)))))
    (sRet (eCB oTuple (aCons (eFz (fComp (iRange1 (aCons (eVar 2) aNil)) (gNm 4) (fun _ st => .ok true st) (eBin oAdd (eC (.int 1)) (eCall 3 f__law_draw (aCons (eVar 0) (aCons (eVar 1) (aCons (eVar 3) aNil))))) [4])) aNil))))
def f__law_lots : Fn := runF 4
    (sSeq (sSet 1 (eFz (fDisp (aCons (eTup aNil) aNil))))
    (sSeq (sFor (iRange1 (aCons (eVar 0) aNil)) (gNm 2) (sSet 1 (eBin oAdd (eVar 1) (eFz (fComp (iVal (eVar 1)) (gNm 3) (fun _ st => .ok true st) (eBin oAdd (eVar 3) (eTup (aCons (eVar 2) aNil))) [3])))))
    (sRet (eFz (fSorted (eVar 1))))))
def f__law_weight : Fn := runF 3
    (sRet (eCB oSum (aCons (eFz (fComp (iVal (eVar 1)) (gNm 2) (fun _ st => .ok true st) (eBin oIx (eVar 0) (eVar 2)) [2])) aNil)))
def f__law_comparison : Fn := runF 9
    (sSeq (sSet 4 (eCall 1 f__law_lots (aCons (eVar 2) aNil)))
    (sSeq (sPar 5 6 (aCons (eCall 3 f__law_pick (aCons (eVar 0) (aCons (eVar 1) (aCons (eVar 4) aNil)))) (aCons (eCall 3 f__law_pick (aCons (eVar 0) (aCons (eVar 1) (aCons (eVar 4) aNil)))) aNil)))
    (sSeq (sSet 7 (eCall 3 f__law_pick (aCons (eVar 0) (aCons (eVar 1) (aCons (eFz (fDisp (aCons (eC (.str ">")) (aCons (eC (.str ">")) (aCons (eC (.str ">=")) (aCons (eC (.str "=")) aNil)))))) aNil)))))
    (sSeq (sIf (tE (eBin oGtI (eCall 3 f__law_draw (aCons (eVar 0) (aCons (eVar 1) (aCons (eC (.int 6)) aNil)))) (eC (.int 0)))) (sSeq (sSet 8 (eBin oSub (eCall 2 f__law_weight (aCons (eVar 3) (aCons (eVar 5) aNil))) (eCall 2 f__law_weight (aCons (eVar 3) (aCons (eVar 6) aNil)))))
    (sSeq (sAsg (eIf (tE (eBin oGeI (eVar 8) (eC (.int 0)))) (eTup (aCons (eVar 5) (aCons (eVar 6) aNil))) (eTup (aCons (eVar 6) (aCons (eVar 5) aNil)))) (gTp 2 (gsCons (gNm 5) (gsCons (gNm 6) gsNil))))
    (sSet 7 (eIf (tOrF (tAndF (tE (eBin oEq (eVar 8) (eC (.int 0)))) (tE (eBin oNe (eVar 7) (eC (.str ">"))))) (tAndF (tE (eBin oNe (eVar 8) (eC (.int 0)))) (tE (eBin oNe (eVar 7) (eC (.str "=")))))) (eVar 7) (eC (.str ">=")))))) sNil)
    (sRet (eTup (aCons (eVar 5) (aCons (eVar 7) (aCons (eVar 6) aNil)))))))))
def f__law_told : Fn := runF 6
    (sSeq (sSet 4 (eCall 3 f__law_scale (aCons (eVar 0) (aCons (eVar 1) (aCons (eVar 2) aNil)))))
    (sRet (eCB oTuple (aCons (eFz (fComp (iRange1 (aCons (eCall 3 f__law_draw (aCons (eVar 0) (aCons (eVar 1) (aCons (eBin oAdd (eVar 3) (eC (.int 1))) aNil)))) aNil)) (gNm 5) (fun _ st => .ok true st) (eCall 4 f__law_comparison (aCons (eVar 0) (aCons (eVar 1) (aCons (eVar 2) (aCons (eVar 4) aNil))))) [5])) aNil))))
def f_is_between : Fn := runF 3
    (sRet (eAnd (eIsi .int (eVar 0)) (eAnd (eNot (eIsi .bl (eVar 0))) (eChain oLeI oLeI (eVar 1) (eVar 0) (eVar 2)))))
def f_check_things : Fn := runF 1
    (sIf (tNotF (tE (eCall 3 f_is_between (aCons (eVar 0) (aCons (eC (.int 1)) (aCons (eC (.int 5)) aNil)))))) (sRaise "InvalidThings") sNil)
def f_is_found_lot : Fn := runF 4
    (sSeq (sIf (tOrF (tNotF (tE (eIsi .tup (eVar 1)))) (tNotF (tE (eCB oAll (aCons (eFz (fComp (iVal (eVar 1)) (gNm 2) (fun _ st => .ok true st) (eCall 3 f_is_between (aCons (eVar 2) (aCons (eC (.int 0)) (aCons (eBin oSub (eVar 0) (eC (.int 1))) aNil)))) [2])) aNil))))) (sRet (eC (.bl false))) sNil)
    (sRet (eCB oAll (aCons (eFz (fComp (iRange1 (aCons (eBin oSub (eCB oLen (aCons (eVar 1) aNil)) (eC (.int 1))) aNil)) (gNm 3) (fun _ st => .ok true st) (eBin oLt (eBin oIx (eVar 1) (eVar 3)) (eBin oIx (eVar 1) (eBin oAdd (eVar 3) (eC (.int 1))))) [3])) aNil))))
def f_is_comparison : Fn := runF 2
    (sSeq (sIf (tOrF (tNotF (tE (eIsi .tup (eVar 1)))) (tOrF (tE (eBin oNe (eCB oLen (aCons (eVar 1) aNil)) (eC (.int 3)))) (tOrF (tNotF (tE (eIsi .str (eBin oIx (eVar 1) (eC (.int 1)))))) (tE (eBin oNin (eBin oIx (eVar 1) (eC (.int 1))) (eC (.tup [.str ">", .str ">=", .str "="]))))))) (sRet (eC (.bl false))) sNil)
    (sRet (eAnd (eCall 2 f_is_found_lot (aCons (eVar 0) (aCons (eBin oIx (eVar 1) (eC (.int 0))) aNil))) (eCall 2 f_is_found_lot (aCons (eVar 0) (aCons (eBin oIx (eVar 1) (eC (.int 2))) aNil))))))
def f_are_told : Fn := runF 3
    (sRet (eAnd (eIsi .tup (eVar 1)) (eAnd (eBin oLeI (eCB oLen (aCons (eVar 1) aNil)) (eC (.int 8))) (eCB oAll (aCons (eFz (fComp (iVal (eVar 1)) (gNm 2) (fun _ st => .ok true st) (eCall 2 f_is_comparison (aCons (eVar 0) (aCons (eVar 2) aNil))) [2])) aNil)))))
def f_is_told : Fn := runF 2
    (sSeq (sDrop (eCall 1 f_check_things (aCons (eVar 0) aNil)))
    (sRet (eCall 2 f_are_told (aCons (eVar 0) (aCons (eVar 1) aNil)))))
def f__law_wrong : Fn := runF 5
    (sSeq (sAsg (eTup (aCons (eOw (fDisp aNil)) (aCons (eTup (aCons (eTup (aCons (eC (.int 0)) aNil)) (aCons (eC (.str ">=")) (aCons (eTup (aCons (eC (.int 1)) aNil)) aNil)))) aNil))) (gTp 2 (gsCons (gNm 1) (gsCons (gNm 2) gsNil))))
    (sSeq (sFor (iVal (eTup (aCons (eC .non) (aCons (eC (.int 0)) (aCons (eC (.int 6)) (aCons (eC (.bl true)) (aCons (eC (.str "3")) (aCons (eTup (aCons (eC (.int 3)) aNil)) aNil)))))))) (gNm 3) (sSet 1 (eOw (fAdd (eFrz (eVar 1)) (eFz (fComp (iVal (eBin oAdd (eFz (fListRg (eC (.int 17)))) (eFz (fDisp (aCons (eC (.int 18)) (aCons (eC (.int 19)) (aCons (eC (.int 20)) (aCons (eC (.int 22)) (aCons (eC (.int 23)) (aCons (eC (.int 25)) aNil)))))))))) (gNm 4) (fun _ st => .ok true st) (eTup (aCons (eVar 4) (aCons (eTup (aCons (eVar 3) (aCons (eVar 0) (aCons (eVar 2) (aCons (eC (.int 1)) aNil))))) (aCons (eC (.str "things")) aNil)))) [4]))))))
    (sSeq (sFor (iVal (eTup (aCons (eC .non) (aCons (eTup (aCons (eC (.int 1)) (aCons (eC (.int 1)) aNil))) (aCons (eTup (aCons (eC (.int 1)) (aCons (eC (.int 1)) (aCons (eC (.int 0)) aNil)))) (aCons (eTup (aCons (eC (.int 1)) (aCons (eC (.int 1)) (aCons (eC (.bl true)) aNil)))) (aCons (eFz (fDisp (aCons (eC (.int 1)) (aCons (eC (.int 1)) (aCons (eC (.int 1)) aNil))))) (aCons (eTup (aCons (eC (.int 1)) (aCons (eC (.int 1)) (aCons (eUn oNeg (eC (.int 2))) aNil)))) (aCons (eTup (aCons (eC (.int 1)) (aCons (eC (.int 1)) (aCons (eC (.int 1)) (aCons (eC (.int 1)) aNil))))) aNil))))))))) (gNm 3) (sDrop (eLm goApp (eVar 1) (aCons (eTup (aCons (eC (.int 11)) (aCons (eTup (aCons (eC (.int 3)) (aCons (eVar 0) (aCons (eVar 3) (aCons (eC (.int 0)) aNil))))) (aCons (eC (.str "weights")) aNil)))) aNil))))
    (sSeq (sFor (iVal (eTup (aCons (eC .non) (aCons (eTup aNil) (aCons (eBin oMul (eTup (aCons (eC (.int 1)) aNil)) (eC (.int 6))) (aCons (eTup (aCons (eC (.int 0)) aNil)) (aCons (eFz (fDisp (aCons (eC (.int 1)) aNil))) (aCons (eTup (aCons (eC (.bl true)) aNil)) aNil)))))))) (gNm 3) (sSeq (sSet 1 (eOw (fAdd (eFrz (eVar 1)) (eFz (fDisp (aCons (eTup (aCons (eC (.int 17)) (aCons (eTup (aCons (eVar 3) (aCons (eTup (aCons (eC (.int 0)) aNil)) (aCons (eC (.int 0)) (aCons (eC (.int 0)) aNil))))) (aCons (eC (.str "weights")) aNil)))) (aCons (eTup (aCons (eC (.int 21)) (aCons (eTup (aCons (eVar 3) (aCons (eVar 2) (aCons (eC (.int 0)) (aCons (eC (.int 0)) aNil))))) (aCons (eC (.str "weights")) aNil)))) aNil)))))))
    (sDrop (eLm goApp (eVar 1) (aCons (eTup (aCons (eC (.int 24)) (aCons (eTup (aCons (eVar 3) (aCons (eC (.int 0)) (aCons (eC (.int 0)) (aCons (eC (.int 0)) aNil))))) (aCons (eC (.str "weights")) aNil)))) aNil)))))
    (sSeq (sFor (iVal (eTup (aCons (eC .non) (aCons (eTup (aCons (eC (.int 3)) aNil)) (aCons (eTup (aCons (eC (.int 1)) (aCons (eC (.int 0)) aNil))) (aCons (eFz (fDisp (aCons (eC (.int 0)) aNil))) (aCons (eTup (aCons (eC (.bl true)) aNil)) aNil))))))) (gNm 3) (sSeq (sSet 1 (eOw (fAdd (eFrz (eVar 1)) (eFz (fDisp (aCons (eTup (aCons (eC (.int 17)) (aCons (eTup (aCons (eTup (aCons (eC (.int 1)) (aCons (eC (.int 2)) (aCons (eC (.int 3)) aNil)))) (aCons (eVar 3) (aCons (eC (.int 0)) (aCons (eC (.int 0)) aNil))))) (aCons (eC (.str "lot")) aNil)))) (aCons (eTup (aCons (eC (.int 18)) (aCons (eTup (aCons (eC (.int 3)) (aCons (eVar 0) (aCons (eVar 3) (aCons (eTup (aCons (eC (.int 0)) aNil)) aNil))))) (aCons (eC (.str "lot")) aNil)))) aNil)))))))
    (sSet 1 (eOw (fAdd (eFrz (eVar 1)) (eFz (fDisp (aCons (eTup (aCons (eC (.int 18)) (aCons (eTup (aCons (eC (.int 3)) (aCons (eVar 0) (aCons (eTup aNil) (aCons (eVar 3) aNil))))) (aCons (eC (.str "lot")) aNil)))) (aCons (eTup (aCons (eC (.int 25)) (aCons (eTup (aCons (eC (.int 3)) (aCons (eVar 0) (aCons (eVar 3) (aCons (eC (.int 1)) aNil))))) (aCons (eC (.str "lot")) aNil)))) aNil)))))))))
    (sSeq (sFor (iVal (eTup (aCons (eC .non) (aCons (eTup aNil) (aCons (eTup (aCons (eTup (aCons (eC (.int 0)) aNil)) (aCons (eC (.str "<")) (aCons (eTup (aCons (eC (.int 1)) aNil)) aNil)))) (aCons (eTup (aCons (eTup (aCons (eC (.int 3)) aNil)) (aCons (eC (.str ">")) (aCons (eTup aNil) aNil)))) (aCons (eFz (fDisp (aCons (eTup (aCons (eC (.int 0)) aNil)) (aCons (eC (.str ">")) (aCons (eTup (aCons (eC (.int 1)) aNil)) aNil))))) (aCons (eTup (aCons (eTup (aCons (eC (.int 0)) aNil)) (aCons (eC (.str ">")) aNil))) aNil)))))))) (gNm 3) (sSeq (sSet 1 (eOw (fAdd (eFrz (eVar 1)) (eFz (fComp (iVal (eTup (aCons (eC (.int 13)) (aCons (eC (.int 14)) (aCons (eC (.int 20)) aNil))))) (gNm 4) (fun _ st => .ok true st) (eTup (aCons (eVar 4) (aCons (eTup (aCons (eC (.int 3)) (aCons (eVar 0) (aCons (eVar 3) (aCons (eTup aNil) aNil))))) (aCons (eC (.str "comparison")) aNil)))) [4])))))
    (sDrop (eLm goApp (eVar 1) (aCons (eTup (aCons (eC (.int 21)) (aCons (eTup (aCons (eTup (aCons (eC (.int 1)) (aCons (eC (.int 2)) (aCons (eC (.int 3)) aNil)))) (aCons (eVar 3) (aCons (eC (.int 0)) (aCons (eC (.int 0)) aNil))))) (aCons (eC (.str "comparison")) aNil)))) aNil)))))
    (sSeq (sSet 1 (eOw (fAdd (eFrz (eVar 1)) (eFz (fComp (iVal (eTup (aCons (eC (.int 14)) (aCons (eC (.int 20)) aNil)))) (gNm 4) (fun _ st => .ok true st) (eTup (aCons (eVar 4) (aCons (eTup (aCons (eC (.int 3)) (aCons (eVar 0) (aCons (eTup (aCons (eTup (aCons (eC (.int 0)) aNil)) (aCons (eC (.str "=")) (aCons (eTup (aCons (eC (.int 1)) aNil)) aNil)))) (aCons (eTup aNil) aNil))))) (aCons (eC (.str "comparison")) aNil)))) [4])))))
    (sSeq (sFor (iVal (eTup (aCons (eC .non) (aCons (eUn oNeg (eC (.int 1))) (aCons (eC (.int 21)) (aCons (eC (.bl true)) (aCons (eC (.str "1")) aNil))))))) (gNm 3) (sDrop (eLm goApp (eVar 1) (aCons (eTup (aCons (eC (.int 19)) (aCons (eTup (aCons (eC (.int 3)) (aCons (eVar 0) (aCons (eVar 3) (aCons (eC .non) aNil))))) (aCons (eC (.str "number")) aNil)))) aNil))))
    (sSeq (sFor (iVal (eTup (aCons (eC .non) (aCons (eC (.int 0)) (aCons (eC (.int 5)) (aCons (eC (.bl true)) (aCons (eC (.str "1")) aNil))))))) (gNm 3) (sDrop (eLm goApp (eVar 1) (aCons (eTup (aCons (eC (.int 25)) (aCons (eTup (aCons (eC (.int 3)) (aCons (eVar 0) (aCons (eTup (aCons (eC (.int 0)) aNil)) (aCons (eVar 3) aNil))))) (aCons (eC (.str "number")) aNil)))) aNil))))
    (sSeq (sSet 1 (eOw (fAdd (eBin oAdd (eFrz (eVar 1)) (eFz (fComp (iVal (eTup (aCons (eC (.int 5)) (aCons (eC (.int 6)) (aCons (eC (.int 7)) (aCons (eC (.int 8)) aNil)))))) (gNm 4) (fun _ st => .ok true st) (eTup (aCons (eVar 4) (aCons (eTup (aCons (eC (.int 4)) (aCons (eTup aNil) (aCons (eC (.int 0)) (aCons (eC (.int 0)) aNil))))) (aCons (eC (.str "many")) aNil)))) [4]))) (eFz (fDisp (aCons (eTup (aCons (eC (.int 1)) (aCons (eTup (aCons (eC (.int 5)) (aCons (eTup aNil) (aCons (eC (.int 0)) (aCons (eC (.int 0)) aNil))))) (aCons (eC (.str "many")) aNil)))) aNil))))))
    (sSeq (sSet 1 (eOw (fAdd (eFrz (eVar 1)) (eFz (fDisp (aCons (eTup (aCons (eC (.int 19)) (aCons (eTup (aCons (eC (.int 4)) (aCons (eTup aNil) (aCons (eC (.int 1)) (aCons (eC .non) aNil))))) (aCons (eC (.str "many")) aNil)))) (aCons (eTup (aCons (eC (.int 22)) (aCons (eTup (aCons (eC (.int 4)) (aCons (eC (.int 0)) (aCons (eC (.int 0)) (aCons (eC (.int 0)) aNil))))) (aCons (eC (.str "many")) aNil)))) aNil)))))))
    (sRet (eBin oAdd (eFrz (eVar 1)) (eFz (fDisp (aCons (eTup (aCons (eC (.int 23)) (aCons (eTup (aCons (eC (.int 5)) (aCons (eC (.int 0)) (aCons (eC (.int 0)) (aCons (eC (.int 0)) aNil))))) (aCons (eC (.str "many")) aNil)))) (aCons (eTup (aCons (eC (.int 25)) (aCons (eTup (aCons (eC (.int 5)) (aCons (eTup aNil) (aCons (eTup aNil) (aCons (eC (.int 1)) aNil))))) (aCons (eC (.str "many")) aNil)))) aNil)))))))))))))))))
def f_check_told : Fn := runF 2
    (sSeq (sDrop (eCall 1 f_check_things (aCons (eVar 0) aNil)))
    (sIf (tNotF (tE (eCall 2 f_are_told (aCons (eVar 0) (aCons (eVar 1) aNil))))) (sRaise "InvalidTold") sNil))
def f_does_balance : Fn := runF 9
    (sSeq (sIf (tOrF (tNotF (tE (eIsi .tup (eVar 2)))) (tE (eBin oNe (eCB oLen (aCons (eVar 2) aNil)) (eCB oLen (aCons (eVar 1) aNil))))) (sRet (eC (.bl false))) sNil)
    sBar)
def f_is_balance : Fn := runF 3
    (sSeq (sDrop (eCall 2 f_check_told (aCons (eVar 0) (aCons (eVar 1) aNil))))
    (sRet (eCall 3 f_does_balance (aCons (eVar 0) (aCons (eVar 1) (aCons (eVar 2) aNil))))))
def f_is_lot : Fn := runF 2
    (sSeq (sDrop (eCall 1 f_check_things (aCons (eVar 0) aNil)))
    (sRet (eCall 2 f_is_found_lot (aCons (eVar 0) (aCons (eVar 1) aNil)))))
def f_check_lot : Fn := runF 2
    (sIf (tNotF (tE (eCall 2 f_is_found_lot (aCons (eVar 0) (aCons (eVar 1) aNil))))) (sRaise "InvalidLot") sNil)
def f_naive_possible : Fn := runF 12
    (sSeq (sDrop (eCall 2 f_check_told (aCons (eVar 0) (aCons (eVar 1) aNil))))
    (sSeq (sDrop (eCall 2 f_check_lot (aCons (eVar 0) (aCons (eVar 2) aNil))))
    (sSeq (sDrop (eCall 2 f_check_lot (aCons (eVar 0) (aCons (eVar 3) aNil))))
    (sSeq (sIf (tNotF (tE (eCall 3 f_is_between (aCons (eVar 4) (aCons (eC (.int 1)) (aCons (eC (.int 4)) aNil)))))) (sRaise "InvalidNumber") sNil)
    (sSeq (sIf (tE (eBin oGtI (eVar 0) (eC (.int 4)))) (sRaise "TooMany") sNil)
    sBar)))))
def f_are_weights : Fn := runF 2
    (sSeq (sIf (tOrF (tNotF (tE (eIsi .tup (eVar 0)))) (tNotF (tE (eChain oLeI oLeI (eC (.int 1)) (eCB oLen (aCons (eVar 0) aNil)) (eC (.int 5)))))) (sRet (eC (.bl false))) sNil)
    (sRet (eCB oAll (aCons (eFz (fComp (iVal (eVar 0)) (gNm 1) (fun _ st => .ok true st) (eAnd (eIsi .int (eVar 1)) (eAnd (eNot (eIsi .bl (eVar 1))) (eBin oGtI (eVar 1) (eC (.int 0))))) [1])) aNil))))
def f_check_weights : Fn := runF 1
    (sIf (tNotF (tE (eCall 1 f_are_weights (aCons (eVar 0) aNil)))) (sRaise "InvalidWeights") sNil)
def f_check_comparison : Fn := runF 2
    (sIf (tNotF (tE (eCall 2 f_is_comparison (aCons (eVar 0) (aCons (eVar 1) aNil))))) (sRaise "InvalidComparison") sNil)
def f_holds : Fn := runF 2
    (sSeq (sDrop (eCall 1 f_check_weights (aCons (eVar 0) aNil)))
    (sSeq (sDrop (eCall 2 f_check_comparison (aCons (eCB oLen (aCons (eVar 0) aNil)) (aCons (eVar 1) aNil))))
    sBar))
def f_some_weights : Fn := runF 2
    (sSeq (sDrop (eCall 2 f_check_told (aCons (eVar 0) (aCons (eVar 1) aNil))))
    sBar)
def f_least_weights : Fn := runF 4
    (sSeq (sDrop (eCall 2 f_check_told (aCons (eVar 0) (aCons (eVar 1) aNil))))
    (sSeq (sIf (tE (eBin oGtI (eVar 0) (eC (.int 4)))) (sRaise "TooMany") sNil)
    sBar))
def f_balance : Fn := runF 2
    (sSeq (sDrop (eCall 2 f_check_told (aCons (eVar 0) (aCons (eVar 1) aNil))))
    sBar)
def f_clash : Fn := runF 5
    (sSeq (sDrop (eCall 2 f_check_told (aCons (eVar 0) (aCons (eVar 1) aNil))))
    sBar)
def f_needless : Fn := runF 3
    (sSeq (sDrop (eCall 2 f_check_told (aCons (eVar 0) (aCons (eVar 1) aNil))))
    sBar)
def f_found_agreeing : Fn := runF 4
    (sSeq (sDrop (eCall 2 f_check_told (aCons (eVar 0) (aCons (eVar 1) aNil))))
    (sSeq (sIf (tE (eBin oGtI (eVar 0) (eC (.int 3)))) (sRaise "TooMany") sNil)
    sBar))
def f_agreeing : Fn := runF 4
    (sRet (eCB oTuple (aCons (eFz (fComp (iVal (eCall 2 f_found_agreeing (aCons (eVar 0) (aCons (eVar 1) aNil)))) (gTp 2 (gsCons (gNm 2) (gsCons (gNm 3) gsNil))) (fun _ st => .ok true st) (eVar 2) [2, 3])) aNil)))
def f_weights_left : Fn := runF 5
    (sSeq (sSet 2 (eCB oTuple (aCons (eFz (fComp (iVal (eCall 2 f_found_agreeing (aCons (eVar 0) (aCons (eVar 1) aNil)))) (gTp 2 (gsCons (gNm 3) (gsCons (gNm 4) gsNil))) (fun _ st => .ok true st) (eVar 4) [3, 4])) aNil)))
    sBar)
def f_fewest_further : Fn := runF 9
    (sSeq (sSet 2 (eCall 2 f_weights_left (aCons (eVar 0) (aCons (eVar 1) aNil))))
    sBar)
def f_fewest_questions : Fn := runF 3
    (sSeq (sSet 2 (eCall 2 f_weights_left (aCons (eVar 0) (aCons (eVar 1) aNil))))
    sBar)
def f_agrees : Fn := runF 3
    (sSeq (sDrop (eCall 2 f_check_told (aCons (eVar 0) (aCons (eVar 1) aNil))))
    (sSeq (sIf (tOrF (tNotF (tE (eCall 1 f_are_weights (aCons (eVar 2) aNil)))) (tE (eBin oNe (eCB oLen (aCons (eVar 2) aNil)) (eVar 0)))) (sRaise "InvalidWeights") sNil)
    sBar))
def f_follows : Fn := runF 3
    (sSeq (sDrop (eCall 2 f_check_told (aCons (eVar 0) (aCons (eVar 1) aNil))))
    (sSeq (sDrop (eCall 2 f_check_comparison (aCons (eVar 0) (aCons (eVar 2) aNil))))
    sBar))
def f_grounds : Fn := runF 4
    (sSeq (sDrop (eCall 2 f_check_told (aCons (eVar 0) (aCons (eVar 1) aNil))))
    (sSeq (sDrop (eCall 2 f_check_comparison (aCons (eVar 0) (aCons (eVar 2) aNil))))
    (sSeq (sIf (tE (eBin oEq (eBin oIx (eVar 2) (eC (.int 1))) (eC (.str "=")))) (sRaise "InvalidComparison") sNil)
    sBar)))
def f_weight_of : Fn := runF 2
    (sSeq (sDrop (eCall 1 f_check_weights (aCons (eVar 0) aNil)))
    (sSeq (sDrop (eCall 2 f_check_lot (aCons (eCB oLen (aCons (eVar 0) aNil)) (aCons (eVar 1) aNil))))
    sBar))
def f_possible : Fn := runF 7
    (sSeq (sDrop (eCall 2 f_check_told (aCons (eVar 0) (aCons (eVar 1) aNil))))
    (sSeq (sDrop (eCall 2 f_check_lot (aCons (eVar 0) (aCons (eVar 2) aNil))))
    (sSeq (sDrop (eCall 2 f_check_lot (aCons (eVar 0) (aCons (eVar 3) aNil))))
    sBar)))
def f_is_plan : Fn := runF 5
    (sSeq (sDrop (eCall 2 f_check_told (aCons (eVar 0) (aCons (eVar 1) aNil))))
    (sSeq (sIf (tNotF (tE (eCall 3 f_is_between (aCons (eVar 2) (aCons (eC (.int 0)) (aCons (eC (.int 20)) aNil)))))) (sRaise "InvalidNumber") sNil)
    (sSeq (sSet 4 (eCall 2 f_weights_left (aCons (eVar 0) (aCons (eVar 1) aNil))))
    sBar)))
def f_is_grounds : Fn := runF 4
    (sSeq (sDrop (eCall 2 f_check_told (aCons (eVar 0) (aCons (eVar 1) aNil))))
    (sSeq (sDrop (eCall 2 f_check_comparison (aCons (eVar 0) (aCons (eVar 2) aNil))))
    (sSeq (sIf (tE (eBin oEq (eBin oIx (eVar 2) (eC (.int 1))) (eC (.str "=")))) (sRaise "InvalidComparison") sNil)
    sBar)))
def f_orders : Fn := runF 3
    (sSeq (sDrop (eCall 1 f_check_things (aCons (eVar 0) aNil)))
    (sSeq (sIf (tE (eBin oGtI (eVar 0) (eC (.int 3)))) (sRaise "TooMany") sNil)
    sBar))
def f_count_orders : Fn := runF 7
    (sSeq (sDrop (eCall 1 f_check_things (aCons (eVar 0) aNil)))
    (sSeq (sIf (tE (eBin oGtI (eVar 0) (eC (.int 4)))) (sRaise "TooMany") sNil)
    sBar))
def f_order_of : Fn := runF 1
    (sSeq (sDrop (eCall 1 f_check_weights (aCons (eVar 0) aNil)))
    sBar)
def f_question_plan : Fn := runF 3
    (sSeq (sSet 2 (eCall 2 f_weights_left (aCons (eVar 0) (aCons (eVar 1) aNil))))
    sBar)
def f_format_told : Fn := runF 2
    (sSeq (sDrop (eCall 2 f_check_told (aCons (eVar 0) (aCons (eVar 1) aNil))))
    sBar)
def f_parse_told : Fn := runF 4
    (sSeq (sDrop (eCall 1 f_check_things (aCons (eVar 0) aNil)))
    sBar)
def f__law_call : Fn := runF 7
    (sSeq (sAsg (eVar 1) (gTp 4 (gsCons (gNm 2) (gsCons (gNm 3) (gsCons (gNm 4) (gsCons (gNm 5) gsNil))))))
    (sSeq (sIf (tE (eBin oLt (eVar 0) (eC (.int 11)))) (sSeq (sSet 6 (eTup (aCons (eC (.glo "some_weights")) (aCons (eC (.glo "least_weights")) (aCons (eC (.glo "balance")) (aCons (eC (.glo "clash")) (aCons (eC (.glo "needless")) (aCons (eC (.glo "agreeing")) (aCons (eC (.glo "fewest_further")) (aCons (eC (.glo "fewest_questions")) aNil))))))))))
    (sRet (eCallV [("some_weights", f_some_weights), ("least_weights", f_least_weights), ("balance", f_balance), ("clash", f_clash), ("needless", f_needless), ("agreeing", f_agreeing), ("fewest_further", f_fewest_further), ("fewest_questions", f_fewest_questions), ("is_told", f_is_told), ("is_lot", f_is_lot), ("weight_of", f_weight_of), ("question_plan", f_question_plan), ("format_told", f_format_told), ("parse_told", f_parse_told)] 2 (eBin oIx (eBin oAdd (eVar 6) (eTup (aCons (eC (.glo "question_plan")) (aCons (eC (.glo "format_told")) (aCons (eC (.glo "parse_told")) aNil))))) (eVar 0)) (aCons (eVar 2) (aCons (eVar 3) aNil))))) sNil)
    (sSeq (sIf (tE (eBin oLt (eVar 0) (eC (.int 15)))) (sRet (eCallV [("agrees", f_agrees), ("is_balance", f_is_balance), ("follows", f_follows), ("grounds", f_grounds)] 3 (eBin oIx (eTup (aCons (eC (.glo "agrees")) (aCons (eC (.glo "is_balance")) (aCons (eC (.glo "follows")) (aCons (eC (.glo "grounds")) aNil))))) (eBin oSub (eVar 0) (eC (.int 11)))) (aCons (eVar 2) (aCons (eVar 3) (aCons (eVar 4) aNil))))) sNil)
    (sSeq (sIf (tE (eBin oLt (eVar 0) (eC (.int 18)))) (sRet (eCallV [("some_weights", f_some_weights), ("least_weights", f_least_weights), ("balance", f_balance), ("clash", f_clash), ("needless", f_needless), ("agreeing", f_agreeing), ("fewest_further", f_fewest_further), ("fewest_questions", f_fewest_questions), ("is_told", f_is_told), ("is_lot", f_is_lot), ("weight_of", f_weight_of), ("question_plan", f_question_plan), ("format_told", f_format_told), ("parse_told", f_parse_told)] 2 (eBin oIx (eTup (aCons (eC (.glo "is_told")) (aCons (eC (.glo "is_lot")) (aCons (eC (.glo "weight_of")) aNil)))) (eBin oSub (eVar 0) (eC (.int 15)))) (aCons (eVar 2) (aCons (eVar 3) aNil)))) sNil)
    (sSeq (sIf (tE (eBin oLt (eVar 0) (eC (.int 21)))) (sRet (eCallV [("possible", f_possible), ("is_plan", f_is_plan), ("is_grounds", f_is_grounds)] 4 (eBin oIx (eTup (aCons (eC (.glo "possible")) (aCons (eC (.glo "is_plan")) (aCons (eC (.glo "is_grounds")) aNil)))) (eBin oSub (eVar 0) (eC (.int 18)))) (aCons (eVar 2) (aCons (eVar 3) (aCons (eVar 4) (aCons (eVar 5) aNil)))))) sNil)
    (sSeq (sIf (tE (eBin oEq (eVar 0) (eC (.int 21)))) (sRet (eCall 2 f_holds (aCons (eVar 2) (aCons (eVar 3) aNil)))) sNil)
    (sSeq (sIf (tE (eBin oLt (eVar 0) (eC (.int 25)))) (sRet (eCallV [("orders", f_orders), ("count_orders", f_count_orders), ("order_of", f_order_of)] 1 (eBin oIx (eTup (aCons (eC (.glo "orders")) (aCons (eC (.glo "count_orders")) (aCons (eC (.glo "order_of")) aNil)))) (eBin oSub (eVar 0) (eC (.int 22)))) (aCons (eVar 2) aNil))) sNil)
    (sRet (eCall 5 f_naive_possible (aCons (eVar 2) (aCons (eVar 3) (aCons (eVar 4) (aCons (eVar 4) (aCons (eVar 5) aNil))))))))))))))
def f__law_name : Fn := runF 2
    (sSeq (sIf (tNotF (tE (eIsE (excIs "ValueError") excs (eVar 0)))) (sRet (eUn oNeg (eC (.int 1)))) sNil)
    (sSeq (sSet 1 (eFz (fDisp (aCons (eIsE (excIs "InvalidThings") excs (eVar 0)) (aCons (eIsE (excIs "InvalidTold") excs (eVar 0)) aNil)))))
    (sSeq (sSet 1 (eBin oAdd (eVar 1) (eFz (fDisp (aCons (eIsE (excIs "InvalidWeights") excs (eVar 0)) (aCons (eIsE (excIs "InvalidLot") excs (eVar 0)) aNil))))))
    (sSeq (sSet 1 (eBin oAdd (eVar 1) (eFz (fDisp (aCons (eIsE (excIs "InvalidComparison") excs (eVar 0)) (aCons (eIsE (excIs "InvalidNumber") excs (eVar 0)) aNil))))))
    (sSeq (sSet 1 (eBin oAdd (eVar 1) (eFz (fDisp (aCons (eIsE (excIs "InvalidText") excs (eVar 0)) (aCons (eIsE (excIs "NotSure") excs (eVar 0)) aNil))))))
    (sSeq (sSet 1 (eBin oAdd (eVar 1) (eFz (fDisp (aCons (eIsE (excIs "NoneAgree") excs (eVar 0)) (aCons (eIsE (excIs "TooMany") excs (eVar 0)) aNil))))))
    (sSeq (sSet 1 (eBin oAdd (eVar 1) (eFz (fDisp (aCons (eIsE (excIs "NothingToUndo") excs (eVar 0)) aNil)))))
    (sRet (eIf (tE (eBin oEq (eLr goCount (eVar 1) (aCons (eC (.bl true)) aNil)) (eC (.int 1)))) (eLr goIndex (eVar 1) (aCons (eC (.bl true)) aNil)) (eUn oNeg (eC (.int 1))))))))))))
def f__law_outcome : Fn := runF 5
    (sSeq (sSet 2 (eC .non))
    (sSeq (sSet 3 (eC .non))
    (sSeq (sTryCall 4 2 3 2 excs f__law_call (aCons (eVar 0) (aCons (eVar 1) aNil)))
    (sSeq (sIf (tE (eBin oIsN (eVar 2) (eC .non))) (sRet (eTup (aCons (eC (.str "returned")) (aCons (eVar 3) aNil)))) sNil)
    (sRet (eTup (aCons (eC (.str "raised")) (aCons (eCall 1 f__law_name (aCons (eVar 2) aNil)) aNil))))))))
def f__law_raises : Fn := runF 2
    (sSeq (sSet 1 (eFz (fDisp (aCons (eC (.str "things")) (aCons (eC (.str "told")) (aCons (eC (.str "weights")) (aCons (eC (.str "lot")) (aCons (eC (.str "comparison")) (aCons (eC (.str "number")) aNil)))))))))
    (sSeq (sSet 1 (eBin oAdd (eVar 1) (eFz (fDisp (aCons (eC (.str "text")) (aCons (eC (.str "not_sure")) (aCons (eC (.str "none_agree")) (aCons (eC (.str "many")) (aCons (eC (.str "undo")) aNil)))))))))
    (sRet (eTup (aCons (eC (.str "raised")) (aCons (eLr goIndex (eVar 1) (aCons (eVar 0) aNil)) aNil))))))
def f_law : Fn := runF 8
    (sSeq (sSet 1 (eCall 1 f__law_town (aCons (eVar 0) aNil)))
    (sSeq (sPar 2 3 (aCons (eCall 4 f__law_told (aCons (eVar 0) (aCons (eVar 1) (aCons (eC (.int 3)) (aCons (eC (.int 8)) aNil))))) (aCons (eFz (fDisp aNil)) aNil)))
    (sSeq (sFor (iVal (eCall 0 f__law_no_told aNil)) (gNm 4) (sSeq (sSet 3 (eBin oAdd (eVar 3) (eFz (fComp (iVal (eBin oAdd (eFz (fListRg (eC (.int 10)))) (eFz (fDisp (aCons (eC (.int 11)) (aCons (eC (.int 12)) (aCons (eC (.int 13)) (aCons (eC (.int 14)) (aCons (eC (.int 18)) (aCons (eC (.int 19)) (aCons (eC (.int 20)) (aCons (eC (.int 25)) aNil)))))))))))) (gNm 6) (fun _ st => .ok true st) (eTup (aCons (eVar 6) (aCons (eTup (aCons (eC (.int 3)) (aCons (eVar 4) (aCons (eC (.int 0)) (aCons (eC (.int 0)) aNil))))) (aCons (eC (.str "told")) aNil)))) [6]))))
    (sIf (tE (eCall 2 f_is_told (aCons (eC (.int 3)) (aCons (eVar 4) aNil)))) (sRet (eC (.bl false))) sNil)))
    (sSeq (sSet 3 (eBin oAdd (eVar 3) (eCall 1 f__law_wrong (aCons (eVar 2) aNil))))
    (sSeq (sSet 5 (eFz (fComp (iVal (eVar 3)) (gNm 7) (tE (eBin oNe (eCall 2 f__law_outcome (aCons (eBin oIx (eVar 7) (eC (.int 0))) (aCons (eBin oIx (eVar 7) (eC (.int 1))) aNil))) (eCall 1 f__law_raises (aCons (eBin oIx (eVar 7) (eC (.int 2))) aNil)))) (eVar 7) [7])))
    (sSeq (sIf (tOrF (tE (eBin oNe (eVar 5) (eFz (fDisp aNil)))) (tOrF (tE (eBin oLt (eCB oLen (aCons (eVar 3) aNil)) (eC (.int 400)))) (tOrF (tE (eCall 3 f_is_balance (aCons (eC (.int 3)) (aCons (eVar 2) (aCons (eC .non) aNil))))) (tOrF (tE (eCall 2 f_is_lot (aCons (eC (.int 3)) (aCons (eTup (aCons (eC (.int 3)) aNil)) aNil)))) (tE (eCall 2 f_is_lot (aCons (eC (.int 3)) (aCons (eFz (fDisp (aCons (eC (.int 0)) aNil))) aNil)))))))) (sRet (eC (.bl false))) sNil)
    (sRet (eAnd (eBin oIsN (eCall 2 f_is_told (aCons (eC (.int 3)) (aCons (eVar 2) aNil))) (eC (.bl true))) (eAnd (eBin oIsN (eCall 2 f_is_lot (aCons (eC (.int 3)) (aCons (eTup (aCons (eC (.int 0)) (aCons (eC (.int 2)) aNil))) aNil))) (eC (.bl true))) (eBin oIsN (eCall 2 f_is_told (aCons (eC (.int 5)) (aCons (eBin oMul (eTup (aCons (eTup (aCons (eTup (aCons (eC (.int 4)) aNil)) (aCons (eC (.str "=")) (aCons (eTup aNil) aNil)))) aNil)) (eC (.int 8))) aNil))) (eC (.bl true))))))))))))
def d0 : He.DefD := ⟨("_law_town", none), "_law_town", "_law_town", defArgs (top 96), defBody (top 96), defScope (top 96), [], []⟩
def d1 : He.DefD := ⟨("_law_no_told", none), "_law_no_told", "_law_no_told", defArgs (top 108), defBody (top 108), defScope (top 108), [], []⟩
def d2 : He.DefD := ⟨("_law_draw", none), "_law_draw", "_law_draw", defArgs (top 97), defBody (top 97), defScope (top 97), [], []⟩
def d3 : He.DefD := ⟨("_law_pick", none), "_law_pick", "_law_pick", defArgs (top 98), defBody (top 98), defScope (top 98), [], []⟩
def d4 : He.DefD := ⟨("_law_scale", none), "_law_scale", "_law_scale", defArgs (top 105), defBody (top 105), defScope (top 105), [], []⟩
def d5 : He.DefD := ⟨("_law_lots", none), "_law_lots", "_law_lots", defArgs (top 102), defBody (top 102), defScope (top 102), [], []⟩
def d6 : He.DefD := ⟨("_law_weight", none), "_law_weight", "_law_weight", defArgs (top 103), defBody (top 103), defScope (top 103), [], []⟩
def d7 : He.DefD := ⟨("_law_comparison", none), "_law_comparison", "_law_comparison", defArgs (top 104), defBody (top 104), defScope (top 104), [], []⟩
def d8 : He.DefD := ⟨("_law_told", none), "_law_told", "_law_told", defArgs (top 106), defBody (top 106), defScope (top 106), [], []⟩
def d9 : He.DefD := ⟨("is_between", none), "is_between", "is_between", defArgs (top 14), defBody (top 14), defScope (top 14), [], []⟩
def d10 : He.DefD := ⟨("check_things", none), "check_things", "check_things", defArgs (top 26), defBody (top 26), defScope (top 26), [], []⟩
def d11 : He.DefD := ⟨("is_found_lot", none), "is_found_lot", "is_found_lot", defArgs (top 22), defBody (top 22), defScope (top 22), [], []⟩
def d12 : He.DefD := ⟨("is_comparison", none), "is_comparison", "is_comparison", defArgs (top 23), defBody (top 23), defScope (top 23), [], []⟩
def d13 : He.DefD := ⟨("are_told", none), "are_told", "are_told", defArgs (top 24), defBody (top 24), defScope (top 24), [], []⟩
def d14 : He.DefD := ⟨("is_told", none), "is_told", "is_told", defArgs (top 32), defBody (top 32), defScope (top 32), [], []⟩
def d15 : He.DefD := ⟨("_law_wrong", none), "_law_wrong", "_law_wrong", defArgs (top 109), defBody (top 109), defScope (top 109), [], []⟩
def d16 : He.DefD := ⟨("check_told", none), "check_told", "check_told", defArgs (top 27), defBody (top 27), defScope (top 27), [], []⟩
def d17 : He.DefD := ⟨("does_balance", none), "does_balance", "does_balance", defArgs (top 48), defBody (top 48), defScope (top 48), [], []⟩
def d18 : He.DefD := ⟨("is_balance", none), "is_balance", "is_balance", defArgs (top 47), defBody (top 47), defScope (top 47), [], []⟩
def d19 : He.DefD := ⟨("is_lot", none), "is_lot", "is_lot", defArgs (top 31), defBody (top 31), defScope (top 31), [], []⟩
def d20 : He.DefD := ⟨("check_lot", none), "check_lot", "check_lot", defArgs (top 28), defBody (top 28), defScope (top 28), [], []⟩
def d21 : He.DefD := ⟨("naive_possible", none), "naive_possible", "naive_possible", defArgs (top 94), defBody (top 94), defScope (top 94), [], []⟩
def d22 : He.DefD := ⟨("are_weights", none), "are_weights", "are_weights", defArgs (top 25), defBody (top 25), defScope (top 25), [], []⟩
def d23 : He.DefD := ⟨("check_weights", none), "check_weights", "check_weights", defArgs (top 29), defBody (top 29), defScope (top 29), [], []⟩
def d24 : He.DefD := ⟨("check_comparison", none), "check_comparison", "check_comparison", defArgs (top 30), defBody (top 30), defScope (top 30), [], []⟩
def d25 : He.DefD := ⟨("holds", none), "holds", "holds", defArgs (top 36), defBody (top 36), defScope (top 36), [], []⟩
def d26 : He.DefD := ⟨("some_weights", none), "some_weights", "some_weights", defArgs (top 45), defBody (top 45), defScope (top 45), [], []⟩
def d27 : He.DefD := ⟨("least_weights", none), "least_weights", "least_weights", defArgs (top 50), defBody (top 50), defScope (top 50), [], []⟩
def d28 : He.DefD := ⟨("balance", none), "balance", "balance", defArgs (top 46), defBody (top 46), defScope (top 46), [], []⟩
def d29 : He.DefD := ⟨("clash", none), "clash", "clash", defArgs (top 52), defBody (top 52), defScope (top 52), [], []⟩
def d30 : He.DefD := ⟨("needless", none), "needless", "needless", defArgs (top 61), defBody (top 61), defScope (top 61), [], []⟩
def d31 : He.DefD := ⟨("found_agreeing", none), "found_agreeing", "found_agreeing", defArgs (top 72), defBody (top 72), defScope (top 72), [], []⟩
def d32 : He.DefD := ⟨("agreeing", none), "agreeing", "agreeing", defArgs (top 73), defBody (top 73), defScope (top 73), [], []⟩
def d33 : He.DefD := ⟨("weights_left", none), "weights_left", "weights_left", defArgs (top 74), defBody (top 74), defScope (top 74), [], []⟩
def d34 : He.DefD := ⟨("fewest_further", none), "fewest_further", "fewest_further", defArgs (top 77), defBody (top 77), defScope (top 77), [], []⟩
def d35 : He.DefD := ⟨("fewest_questions", none), "fewest_questions", "fewest_questions", defArgs (top 80), defBody (top 80), defScope (top 80), [], []⟩
def d36 : He.DefD := ⟨("agrees", none), "agrees", "agrees", defArgs (top 38), defBody (top 38), defScope (top 38), [], []⟩
def d37 : He.DefD := ⟨("follows", none), "follows", "follows", defArgs (top 58), defBody (top 58), defScope (top 58), [], []⟩
def d38 : He.DefD := ⟨("grounds", none), "grounds", "grounds", defArgs (top 59), defBody (top 59), defScope (top 59), [], []⟩
def d39 : He.DefD := ⟨("weight_of", none), "weight_of", "weight_of", defArgs (top 34), defBody (top 34), defScope (top 34), [], []⟩
def d40 : He.DefD := ⟨("possible", none), "possible", "possible", defArgs (top 55), defBody (top 55), defScope (top 55), [], []⟩
def d41 : He.DefD := ⟨("is_plan", none), "is_plan", "is_plan", defArgs (top 85), defBody (top 85), defScope (top 85), [], []⟩
def d42 : He.DefD := ⟨("is_grounds", none), "is_grounds", "is_grounds", defArgs (top 60), defBody (top 60), defScope (top 60), [], []⟩
def d43 : He.DefD := ⟨("orders", none), "orders", "orders", defArgs (top 68), defBody (top 68), defScope (top 68), [], []⟩
def d44 : He.DefD := ⟨("count_orders", none), "count_orders", "count_orders", defArgs (top 70), defBody (top 70), defScope (top 70), [], []⟩
def d45 : He.DefD := ⟨("order_of", none), "order_of", "order_of", defArgs (top 65), defBody (top 65), defScope (top 65), [], []⟩
def d46 : He.DefD := ⟨("question_plan", none), "question_plan", "question_plan", defArgs (top 82), defBody (top 82), defScope (top 82), [], []⟩
def d47 : He.DefD := ⟨("format_told", none), "format_told", "format_told", defArgs (top 89), defBody (top 89), defScope (top 89), [], []⟩
def d48 : He.DefD := ⟨("parse_told", none), "parse_told", "parse_told", defArgs (top 92), defBody (top 92), defScope (top 92), [], []⟩
def d49 : He.DefD := ⟨("_law_call", none), "_law_call", "_law_call", defArgs (top 107), defBody (top 107), defScope (top 107), [], []⟩
def d50 : He.DefD := ⟨("_law_name", none), "_law_name", "_law_name", defArgs (top 100), defBody (top 100), defScope (top 100), [], []⟩
def d51 : He.DefD := ⟨("_law_outcome", none), "_law_outcome", "_law_outcome", defArgs (top 99), defBody (top 99), defScope (top 99), [], []⟩
def d52 : He.DefD := ⟨("_law_raises", none), "_law_raises", "_law_raises", defArgs (top 101), defBody (top 101), defScope (top 101), [], []⟩
def d53 : He.DefD := ⟨("law", none), "law", "law", defArgs (top 110), defBody (top 110), defScope (top 110), [], []⟩
def fn : List He.DefD := ([d0, d1, d2, d3, d4, d5, d6, d7, d8, d9, d10, d11, d12, d13, d14, d15, d16, d17, d18, d19, d20, d21, d22, d23, d24, d25, d26, d27, d28, d29] : List He.DefD) ++ ([d30, d31, d32, d33, d34, d35, d36, d37, d38, d39, d40, d41, d42, d43, d44, d45, d46, d47, d48, d49, d50, d51, d52, d53] : List He.DefD)
def fa : List He.Fa := ([.glo "_law_town", .glo "_law_no_told", .glo "_law_draw", .glo "_law_pick", .glo "_law_scale", .glo "_law_lots", .glo "_law_weight", .glo "_law_comparison", .glo "_law_told", .glo "is_between", .glo "check_things", .glo "is_found_lot", .glo "is_comparison", .glo "are_told", .glo "is_told", .glo "_law_wrong", .glo "check_told", .glo "does_balance", .glo "is_balance", .glo "is_lot", .glo "check_lot", .glo "naive_possible", .glo "are_weights", .glo "check_weights", .glo "check_comparison", .glo "holds", .glo "some_weights", .glo "least_weights", .glo "balance", .glo "clash"] : List He.Fa) ++ ([.glo "needless", .glo "found_agreeing", .glo "agreeing", .glo "weights_left", .glo "fewest_further", .glo "fewest_questions", .glo "agrees", .glo "follows", .glo "grounds", .glo "weight_of", .glo "possible", .glo "is_plan", .glo "is_grounds", .glo "orders", .glo "count_orders", .glo "order_of", .glo "question_plan", .glo "format_told", .glo "parse_told", .glo "_law_call", .glo "_law_name", .glo "ScaleError", .glo "_law_outcome", .glo "_law_raises", .glo "law"] : List He.Fa)
def qs : Ask := ⟨(["ValueError", "all", "bool", "int", "isinstance", "len", "list", "range", "sorted", "str", "sum", "tuple"] : List Str), excs, [("Equations", ["many", "signs", "rows", "basis"])], true⟩
def loose : List Str := (["ScaleError", "InvalidThings", "InvalidTold", "InvalidWeights", "InvalidLot", "InvalidComparison", "InvalidNumber", "InvalidText", "NotSure", "NoneAgree", "TooMany", "NothingToUndo", "is_between", "divisor_of", "shortened", "fraction", "common_bottom", "whole", "SIGNS", "is_found_lot", "is_comparison", "are_told", "are_weights", "check_things", "check_told", "check_lot", "check_weights", "check_comparison", "is_lot", "is_told"] : List Str) ++ (["found_weight", "weight_of", "does_hold", "holds", "do_agree", "agrees", "Equations", "cleared", "row_of", "solved", "some_weights", "balance", "is_balance", "does_balance", "all_weights", "least_weights", "some_numbers", "clash", "can_hold", "possible", "opposites", "does_follow", "follows", "grounds", "is_grounds", "needless", "all_lots", "found_order", "order_of", "small_weights"] : List Str) ++ (["found_orders", "orders", "rising_weights", "count_orders", "found_agreeing", "agreeing", "weights_left", "all_questions", "answer_of", "fewest_further", "parted", "fewest_for", "fewest_questions", "plan_for", "question_plan", "does_lead", "is_question", "is_plan", "lot_text", "told_text", "format_told", "lot_of", "comparison_of", "parse_told", "naive_possible", "_law_town", "_law_draw", "_law_pick", "_law_outcome", "_law_name"] : List Str) ++ (["_law_raises", "_law_lots", "_law_weight", "_law_comparison", "_law_scale", "_law_told", "_law_call", "_law_no_told", "_law_wrong"] : List Str)
end Gk01
end
section
set_option Elab.async false
set_option linter.all false
set_option maxRecDepth 100000
namespace Lq
open PySem PySem.Spec PyProof.Rows L2
noncomputable def runO (r : PySem.W.OpenRow) (M : Nat) (w : World) (os : OsState) : Option PySem.W.SharedT := HandSHeadRun.endF (HandSHeadRun.stepQ (HandSHeadRun.denQ HandSHeadRun.tabQ) r.prog w) M r.prog w os
noncomputable abbrev ptA (r : PySem.W.OpenRow) (q : Program) (loose : List Str) (w : World) := fun s : PySem.W.SharedT =>
  (HandSHeadRun.looksF r.prog (PySem.W.boot_heap w.params) s.abs, HandSHeadRun.seenQ q loose (importedModules r.prog.main.body) (fun s => PySem.W.xlAt q [] s && PySem.W.recOk r.toRowW.records s) s.abs)
end Lq
end
section
set_option Elab.async false
set_option linter.all false
set_option maxRecDepth 100000
namespace Lq
open PySem PySem.Spec PyProof.Rows L2
def hookL (as : List Addr) (fa : List He.Fa) (fn : List He.DefD) (q : Ask) : PySem.W.Hook where
  α := He.AlD × Bool
  obs := fun s => (He.obsD fa fn (He.frG s.heap.get? as), exM q (He.frG s.heap.get? as))
  val := fun _ => (He.valD fn, true)
  says := fun _ h => ∃ K : PySem.W.Frag, K.In h ∧ He.SaysD fa fn K ∧ exM q K = true
  of := fun _ _ e => ⟨_, He.frG_in, congrArg (fun z : He.AlD × Bool => z.1) e, congrArg (fun z : He.AlD × Bool => z.2) e⟩
  keeps := fun _ _ _ ⟨K, hK, c⟩ k => ⟨K, PySem.W.Frag.In.keeps hK k, c⟩
def obL (as : List Addr) (fa : List He.Fa) (fn : List He.DefD) (q : Ask) (s : PySem.W.SharedT) : He.AlD × Bool :=
  (He.obsD fa fn (He.frG (HandSHeadRun.getT s) as), exM q (He.frG (HandSHeadRun.getT s) as))
theorem obL_eq {as : List Addr} {fa : List He.Fa} {fn : List He.DefD} {q : Ask} (s : PySem.W.SharedT) : obL as fa fn q s = (hookL as fa fn q).obs s.abs := by
  have e : HandSHeadRun.getT s = s.abs.heap.get? := funext (HandSHeadRun.getT_eq s)
  unfold obL
  rw [e]
  rfl
def KL' (as : List Addr) (s : PySem.W.SharedT) : PySem.W.Frag := He.frG (HandSHeadRun.getT s) as
theorem join3 {S T U : Type} {o : Option S} {a fb fc fe : S → Bool} {b : S → T} {fd : S → U} {g : T} {v : U}
    (hA : o.map (fun s => (a s, b s)) = some (true, g)) (hB : o.map (fun s => (fb s && fc s) && fe s) = some true) (hD : o.map fd = some v) :
    o.map (fun s => (a s, b s, ((fb s && fc s, fd s), fe s))) = some (true, g, ((true, v), true)) := by
  cases o with
  | none => cases hB
  | some s =>
    have eA := Option.some.inj hA
    have eB := Option.some.inj hB
    have eD := Option.some.inj hD
    have e1 := congrArg Prod.fst eA
    have e2 := congrArg Prod.snd eA
    simp only [Bool.and_eq_true] at e1 e2 eB eD
    show some (a s, b s, ((fb s && fc s, fd s), fe s)) = some _
    rw [e1, e2, eB.1.1, eB.1.2, eB.2, eD]
    rfl
theorem runEq_ofL {r : PySem.W.OpenRow} {q : Program} {as : List Addr} {M : Nat} {fa : List He.Fa} {fn : List He.DefD} {qs : Ask} {loose : List Str} {w : World}
    (hA : ∀ os, (runO r M w os).map (ptA r q loose w) = some (true, PySem.W.openGood q loose))
    (hB : ∀ os, (runO r M w os).map (fun s => ((fa.all fun f => f.ok (KL' as s)) && (fn.all fun d => d.ok (KL' as s))) && exM qs (KL' as s)) = some true)
    (hD : ∀ os, (runO r M w os).map (fun s => fn.map fun d => He.fnW (KL' as s) d.at_) = some (fn.map He.DefD.val)) :
    HandSHeadRun.RunEq r q (hookL as fa fn qs) (obL as fa fn qs) M loose w := by
  intro os
  exact join3 (hA os) (hB os) (hD os)
end Lq
end
section
set_option Elab.async false
set_option linter.all false
set_option maxRecDepth 100000
set_option maxHeartbeats 0
namespace Gk01
open PySem PySem.Spec PyProof.Rows L2 Lq
abbrev R_ : PySem.W.OpenRow := PySem.W.OpenLaw.row PySem.Challenge.rw_lotscales_k01_argument_ends
def adrs : List Addr := [3, 6, 4, 24, 37, 49, 61, 73, 85, 97, 109, 121, 133, 145, 157, 166, 173, 178, 185, 192, 199, 200, 205, 212, 217, 222, 229, 236, 243, 250, 257, 264, 271, 276, 283, 290, 297, 302, 309, 343, 352, 357, 362, 369, 376, 383, 388, 393, 400, 405, 410, 417, 424, 431, 436, 443, 450, 457, 462, 467] ++ [472, 479, 484, 491, 496, 501, 506, 511, 516, 521, 526, 533, 538, 543, 548, 555, 560, 567, 572, 577, 584, 589, 594, 601, 606, 613, 618, 623, 630, 637, 644, 651, 658, 665, 670, 675, 682, 687, 692, 699, 706, 711, 716, 0, 23, 36, 48, 60, 72, 84, 96, 108, 120, 132, 144, 156, 165, 172, 177, 184] ++ [191, 198, 204, 211, 216, 221, 228, 235, 242, 249, 256, 263, 270, 275, 282, 289, 296, 301, 308, 342, 351, 356, 361, 368, 375, 382, 387, 392, 399, 404, 409, 416, 423, 430, 435, 442, 449, 456, 461, 466, 471, 478, 483, 490, 495, 500, 505, 510, 515, 520, 525, 532, 537, 542, 547, 554, 559, 566, 571, 576] ++ [583, 588, 593, 600, 605, 612, 617, 622, 629, 636, 643, 650, 657, 664, 669, 674, 681, 686, 691, 698, 705, 710, 715, 22, 25, 35, 47, 59, 71, 83, 95, 107, 119, 131, 143, 155, 160, 161, 162, 163, 164, 167, 168, 169, 170, 171, 174, 175, 176, 179, 180, 181, 182, 183, 186, 187, 188, 189, 190, 193] ++ [194, 195, 196, 197, 201, 202, 203, 206, 207, 208, 209, 210, 213, 214, 215, 218, 219, 220, 223, 224, 225, 226, 227, 230, 231, 232, 233, 234, 237, 238, 239, 240, 241, 244, 245, 246, 247, 248, 251, 252, 253, 254, 255, 258, 259, 260, 261, 262, 265, 266, 267, 268, 269, 272, 273, 274, 277, 278, 279, 280] ++ [281, 284, 285, 286, 287, 288, 291, 292, 293, 294, 295, 298, 299, 300, 303, 304, 305, 306, 307, 321, 328, 335, 340, 341, 344, 345, 348, 349, 350, 353, 354, 355, 358, 359, 360, 363, 364, 365, 366, 367, 370, 371, 372, 373, 374, 377, 378, 379, 380, 381, 384, 385, 386, 389, 390, 391, 394, 395, 396, 397] ++ [398, 401, 402, 403, 406, 407, 408, 411, 412, 413, 414, 415, 418, 419, 420, 421, 422, 425, 426, 427, 428, 429, 432, 433, 434, 437, 438, 439, 440, 441, 444, 445, 446, 447, 448, 451, 452, 453, 454, 455, 458, 459, 460, 463, 464, 465, 468, 469, 470, 473, 474, 475, 476, 477, 480, 481, 482, 485, 486, 487] ++ [488, 489, 492, 493, 494, 497, 498, 499, 502, 503, 504, 507, 508, 509, 512, 513, 514, 517, 518, 519, 522, 523, 524, 527, 528, 529, 530, 531, 534, 535, 536, 539, 540, 541, 544, 545, 546, 549, 550, 551, 552, 553, 556, 557, 558, 561, 562, 563, 564, 565, 568, 569, 570, 573, 574, 575, 578, 579, 580, 581] ++ [582, 585, 586, 587, 590, 591, 592, 595, 596, 597, 598, 599, 602, 603, 604, 607, 608, 609, 610, 611, 614, 615, 616, 619, 620, 621, 624, 625, 626, 627, 628, 631, 632, 633, 634, 635, 638, 639, 640, 641, 642, 645, 646, 647, 648, 649, 652, 653, 654, 655, 656, 659, 660, 661, 662, 663, 666, 667, 668, 671] ++ [672, 673, 676, 677, 678, 679, 680, 683, 684, 685, 688, 689, 690, 693, 694, 695, 696, 697, 700, 701, 702, 703, 704, 707, 708, 709, 712, 713, 714, 320, 327, 334, 339]
abbrev hk : PySem.W.Hook := hookL adrs fa fn qs
abbrev ob : PySem.W.SharedT → He.AlD × Bool := obL adrs fa fn qs
theorem runA (w : World) (os : OsState) : (runO R_ 6000 w os).map (ptA R_ (PySem.W.view R_.prog [110]) loose w) = some (true, PySem.W.openGood (PySem.W.view R_.prog [110]) loose) := by kernel_rfl
theorem runB (w : World) (os : OsState) : (runO R_ 6000 w os).map (fun s => ((fa.all fun f => f.ok (KL' adrs s)) && (fn.all fun d => d.ok (KL' adrs s))) && exM qs (KL' adrs s)) = some true := by kernel_rfl
theorem runD (w : World) (os : OsState) : (runO R_ 6000 w os).map (fun s => fn.map fun d => He.fnW (KL' adrs s) d.at_) = some (fn.map He.DefD.val) := by kernel_rfl
theorem run (w : World) : HandSHeadRun.RunEq R_ (PySem.W.view R_.prog [110]) hk ob 6000 loose w :=
  runEq_ofL (runA w) (runB w) (runD w)
end Gk01
end
section
set_option Elab.async false
set_option linter.all false
set_option maxRecDepth 100000
set_option maxHeartbeats 0
namespace Gk01
open PySem PySem.Spec PyProof.Rows L2 Lq
section
variable {P : Program} {w : World} {K : PySem.W.Frag} {mg : Str → Option Value} {base : Heap}
theorem fr_ValueError (G : Fx fa fn qs K mg) : mg "ValueError" = none := G.fr "ValueError" (by decide)
theorem fr_all (G : Fx fa fn qs K mg) : mg "all" = none := G.fr "all" (by decide)
theorem fr_bool (G : Fx fa fn qs K mg) : mg "bool" = none := G.fr "bool" (by decide)
theorem fr_int (G : Fx fa fn qs K mg) : mg "int" = none := G.fr "int" (by decide)
theorem fr_isinstance (G : Fx fa fn qs K mg) : mg "isinstance" = none := G.fr "isinstance" (by decide)
theorem fr_len (G : Fx fa fn qs K mg) : mg "len" = none := G.fr "len" (by decide)
theorem fr_list (G : Fx fa fn qs K mg) : mg "list" = none := G.fr "list" (by decide)
theorem fr_range (G : Fx fa fn qs K mg) : mg "range" = none := G.fr "range" (by decide)
theorem fr_sorted (G : Fx fa fn qs K mg) : mg "sorted" = none := G.fr "sorted" (by decide)
theorem fr_str (G : Fx fa fn qs K mg) : mg "str" = none := G.fr "str" (by decide)
theorem fr_sum (G : Fx fa fn qs K mg) : mg "sum" = none := G.fr "sum" (by decide)
theorem fr_tuple (G : Fx fa fn qs K mg) : mg "tuple" = none := G.fr "tuple" (by decide)
theorem sc__law_town : FnScope ["script"] ["script"] (defScope (top 96)) := ⟨rfl, rfl, rfl, by decide +kernel, rfl, by decide +kernel, by decide +kernel⟩
theorem ok__law_town (G : Fx fa fn qs K mg) : Cl P w K mg base 1 "_law_town" 1 f__law_town := by
  obtain ⟨fd, F⟩ := G.def_ 0 (d := d0) rfl rfl rfl
  refine cl_of F (G.glo 0 rfl) (F.bindsN fun _ _ _ _ _ _ us hl => match us, hl with | [_], _ => rfl) (fn_body (N := ["script"]) (ps := ["script"]) F sc__law_town fun cdv A outer s H E hr => ?_)
  have nd := sc__law_town.nd
  exact (jss_one (js_ret (je_ow (jf_add (je_fz (jf_lst (ja_cons je_int ja_nil))) (je_fz (jf_list (je_var 0) (fr_list G)))))))
theorem sc__law_no_told : FnScope ["found", "bad"] [] (defScope (top 108)) := ⟨rfl, rfl, rfl, by decide +kernel, rfl, by decide +kernel, by decide +kernel⟩
theorem ok__law_no_told (G : Fx fa fn qs K mg) : Cl P w K mg base 1 "_law_no_told" 0 f__law_no_told := by
  obtain ⟨fd, F⟩ := G.def_ 1 (d := d1) rfl rfl rfl
  refine cl_of F (G.glo 1 rfl) (F.bindsN fun _ _ _ _ _ _ us hl => match us, hl with | [], _ => rfl) (fn_body (N := ["found", "bad"]) (ps := []) F sc__law_no_told fun cdv A outer s H E hr => ?_)
  have nd := sc__law_no_told.nd
  exact (jss_cons (js_set 0 nd (je_ow (jf_lst (ja_cons je_non (ja_cons je_int (ja_cons (je_tup (ja_cons (je_tup (ja_cons je_int ja_nil)) ja_nil)) (ja_cons (je_fz (jf_lst (ja_cons (je_tup (ja_cons (je_tup (ja_cons je_int ja_nil)) (ja_cons je_str (ja_cons (je_tup ja_nil) ja_nil)))) ja_nil))) (ja_cons (je_bin jo_mul (je_tup (ja_cons (je_tup (ja_cons (je_tup (ja_cons je_int ja_nil)) (ja_cons je_str (ja_cons (je_tup ja_nil) ja_nil)))) ja_nil)) je_int) (ja_cons (je_tup (ja_cons (je_tup (ja_cons (je_tup (ja_cons je_int ja_nil)) (ja_cons je_str ja_nil))) ja_nil)) (ja_cons (je_tup (ja_cons (je_tup (ja_cons (je_tup (ja_cons je_int ja_nil)) (ja_cons je_str (ja_cons (je_tup ja_nil) (ja_cons (je_tup ja_nil) ja_nil))))) ja_nil)) ja_nil))))))))))
    (jss_cons (js_for (vs := [1]) ctx_po rfl (ji_seq (je_tup (ja_cons (je_tup (ja_cons je_int ja_nil)) (ja_cons (je_tup (ja_cons je_int (ja_cons je_int ja_nil))) (ja_cons (je_tup (ja_cons je_int (ja_cons je_int ja_nil))) (ja_cons (je_fz (jf_lst (ja_cons je_int ja_nil))) (ja_cons (je_tup (ja_cons je_bl ja_nil)) (ja_cons (je_tup (ja_cons (je_neg je_int) ja_nil)) (ja_cons (je_tup (ja_cons je_str ja_nil)) (ja_cons je_non (ja_cons je_int ja_nil))))))))))) (jg_name (i := 1) nd) (jss_one (js_set 0 nd (je_ow (jf_add (je_frz (je_var 0)) (je_fz (jf_lst (ja_cons (je_tup (ja_cons (je_tup (ja_cons (je_var 1) (ja_cons je_str (ja_cons (je_tup ja_nil) ja_nil)))) ja_nil)) (ja_cons (je_tup (ja_cons (je_tup (ja_cons (je_tup ja_nil) (ja_cons je_str (ja_cons (je_var 1) ja_nil)))) ja_nil)) ja_nil)))))))))
    (jss_cons (js_for (vs := [1]) ctx_po rfl (ji_seq (je_tup (ja_cons je_str (ja_cons je_str (ja_cons je_str (ja_cons je_str (ja_cons je_non (ja_cons je_int (ja_cons (je_tup (ja_cons je_str ja_nil)) ja_nil))))))))) (jg_name (i := 1) nd) (jss_one (js_expr (je_append (je_var 0) (ja_cons (je_tup (ja_cons (je_tup (ja_cons (je_tup (ja_cons je_int ja_nil)) (ja_cons (je_var 1) (ja_cons (je_tup (ja_cons je_int ja_nil)) ja_nil)))) ja_nil)) ja_nil)))))
    (jss_one (js_ret (je_frz (je_var 0)))))))
theorem sc__law_draw : FnScope ["script", "town", "limit", "at", "left", "number"] ["script", "town", "limit"] (defScope (top 97)) := ⟨rfl, rfl, rfl, by decide +kernel, rfl, by decide +kernel, by decide +kernel⟩
theorem ok__law_draw (G : Fx fa fn qs K mg) : Cl P w K mg base 1 "_law_draw" 3 f__law_draw := by
  obtain ⟨fd, F⟩ := G.def_ 2 (d := d2) rfl rfl rfl
  refine cl_of F (G.glo 2 rfl) (F.bindsN fun _ _ _ _ _ _ us hl => match us, hl with | [_, _, _], _ => rfl) (fn_body (N := ["script", "town", "limit", "at", "left", "number"]) (ps := ["script", "town", "limit"]) F sc__law_draw fun cdv A outer s H E hr => ?_)
  have nd := sc__law_draw.nd
  exact (jss_cons (js_asg (vs := []) (je_bin jo_add (je_ix jx_ix (je_var 1) je_int) je_int) (jg_sub (je_var 1) je_int))
    (jss_cons (js_if (jt_cmp (jo_eq hr.units) (je_var 0) (je_fz (jf_lst ja_nil))) (jss_one (js_ret (je_bin jo_mod (je_bin jo_div (je_bin jo_mul (je_bin jo_mul (je_ix jx_ix (je_var 1) je_int) (je_ix jx_ix (je_var 1) je_int)) je_int) je_int) (je_var 2)))) jss_nil)
    (jss_cons (js_set 3 nd (je_bin jo_mod (je_ix jx_ix (je_var 1) je_int) (je_callB jc_len (ja_cons (je_var 0) ja_nil) (fr_len G) PySem.boot_len)))
    (jss_cons (js_set 4 nd (je_ix jx_ix (je_var 1) (je_bin jo_add je_int (je_var 3))))
    (jss_cons (js_if (JW.jt (jw_and (jt_cmp jo_geI (je_ix jx_ix (je_var 0) (je_var 3)) (je_bin jo_pow je_int je_int)) (jw_and1 (jt_cmp jo_gtI (je_var 4) je_int)))) (jss_cons (js_asg (vs := []) (je_bin jo_div (je_var 4) (je_var 2)) (jg_sub (je_var 1) (je_bin jo_add je_int (je_var 3))))
    (jss_one (js_ret (je_bin jo_mod (je_var 4) (je_var 2))))) jss_nil)
    (jss_cons (js_set 5 nd (je_bin jo_mod (je_bin jo_add (je_ix jx_ix (je_var 0) (je_var 3)) (je_bin jo_mul je_int (je_ix jx_ix (je_var 1) je_int))) je_int))
    (jss_cons (js_set 5 nd (je_bin jo_mod (je_bin jo_pow (je_var 5) je_int) je_int))
    (jss_one (js_ret (je_bin jo_mod (je_bin jo_div (je_bin jo_mod (je_bin jo_add (je_bin jo_mul (je_bin jo_div (je_var 5) je_int) je_int) (je_var 5)) je_int) je_int) (je_var 2)))))))))))
theorem sc__law_pick : FnScope ["script", "town", "choices"] ["script", "town", "choices"] (defScope (top 98)) := ⟨rfl, rfl, rfl, by decide +kernel, rfl, by decide +kernel, by decide +kernel⟩
theorem ok__law_pick (G : Fx fa fn qs K mg) : Cl P w K mg base 2 "_law_pick" 3 f__law_pick := by
  obtain ⟨fd, F⟩ := G.def_ 3 (d := d3) rfl rfl rfl
  refine cl_of F (G.glo 3 rfl) (F.bindsN fun _ _ _ _ _ _ us hl => match us, hl with | [_, _, _], _ => rfl) (fn_body (N := ["script", "town", "choices"]) (ps := ["script", "town", "choices"]) F sc__law_pick fun cdv A outer s H E hr => ?_)
  have nd := sc__law_pick.nd
  exact (jss_one (js_ret (je_ix jx_ix (je_var 2) (je_call (ok__law_draw G) hr ctx_px (ja_cons (je_var 0) (ja_cons (je_var 1) (ja_cons (je_callB jc_len (ja_cons (je_var 2) ja_nil) (fr_len G) PySem.boot_len) ja_nil)))))))
theorem sc__law_scale : FnScope ["script", "town", "things", "most", "k"] ["script", "town", "things"] (defScope (top 105)) := ⟨rfl, rfl, rfl, by decide +kernel, rfl, by decide +kernel, by decide +kernel⟩
theorem ok__law_scale (G : Fx fa fn qs K mg) : Cl P w K mg base 3 "_law_scale" 3 f__law_scale := by
  obtain ⟨fd, F⟩ := G.def_ 4 (d := d4) rfl rfl rfl
  refine cl_of F (G.glo 4 rfl) (F.bindsN fun _ _ _ _ _ _ us hl => match us, hl with | [_, _, _], _ => rfl) (fn_body (N := ["script", "town", "things", "most", "k"]) (ps := ["script", "town", "things"]) F sc__law_scale fun cdv A outer s H E hr => ?_)
  have nd := sc__law_scale.nd
  exact (jss_cons (js_set 3 nd (je_call (ok__law_pick G) hr ctx_px (ja_cons (je_var 0) (ja_cons (je_var 1) (ja_cons (je_fz (jf_lst (ja_cons je_int (ja_cons je_int (ja_cons je_int ja_nil))))) ja_nil)))))
    (jss_one (js_ret (je_callTy jc_tuple (ja_cons (je_fz (jf_lc (own := [("k", 4)]) rfl nd (blkOk_by (by kernel_rfl)) (ji_range1 (ja_cons (je_var 2) ja_nil) (fr_range G)) (fun _ _ _ _ _ => (jg_name (i := 4) nd)) (fun _ _ _ _ _ => jts_nil) (fun _ _ _ _ _ => (je_bin jo_add je_int (je_call (ok__law_draw G) hr passL (ja_cons (je_var 0) (ja_cons (je_var 1) (ja_cons (je_var 3) ja_nil)))))))) ja_nil) (fr_tuple G) (by decide +kernel)))))
theorem sc__law_lots : FnScope ["things", "found", "k", "lot"] ["things"] (defScope (top 102)) := ⟨rfl, rfl, rfl, by decide +kernel, rfl, by decide +kernel, by decide +kernel⟩
theorem ok__law_lots (G : Fx fa fn qs K mg) : Cl P w K mg base 1 "_law_lots" 1 f__law_lots := by
  obtain ⟨fd, F⟩ := G.def_ 5 (d := d5) rfl rfl rfl
  refine cl_of F (G.glo 5 rfl) (F.bindsN fun _ _ _ _ _ _ us hl => match us, hl with | [_], _ => rfl) (fn_body (N := ["things", "found", "k", "lot"]) (ps := ["things"]) F sc__law_lots fun cdv A outer s H E hr => ?_)
  have nd := sc__law_lots.nd
  exact (jss_cons (js_set 1 nd (je_fz (jf_lst (ja_cons (je_tup ja_nil) ja_nil))))
    (jss_cons (js_for (vs := [2]) ctx_po rfl (ji_range1 (ja_cons (je_var 0) ja_nil) (fr_range G)) (jg_name (i := 2) nd) (jss_one (js_set 1 nd (je_bin jo_add (je_var 1) (je_fz (jf_lc (own := [("lot", 3)]) rfl nd (blkOk_by (by kernel_rfl)) (ji_seq (je_var 1)) (fun _ _ _ _ _ => (jg_name (i := 3) nd)) (fun _ _ _ _ _ => jts_nil) (fun _ _ _ _ _ => (je_bin jo_add (je_var 3) (je_tup (ja_cons (je_var 2) ja_nil))))))))))
    (jss_one (js_ret (je_fz (jf_sorted hr.units (je_var 1) (fr_sorted G)))))))
theorem sc__law_weight : FnScope ["scale", "lot", "k"] ["scale", "lot"] (defScope (top 103)) := ⟨rfl, rfl, rfl, by decide +kernel, rfl, by decide +kernel, by decide +kernel⟩
theorem ok__law_weight (G : Fx fa fn qs K mg) : Cl P w K mg base 1 "_law_weight" 2 f__law_weight := by
  obtain ⟨fd, F⟩ := G.def_ 6 (d := d6) rfl rfl rfl
  refine cl_of F (G.glo 6 rfl) (F.bindsN fun _ _ _ _ _ _ us hl => match us, hl with | [_, _], _ => rfl) (fn_body (N := ["scale", "lot", "k"]) (ps := ["scale", "lot"]) F sc__law_weight fun cdv A outer s H E hr => ?_)
  have nd := sc__law_weight.nd
  exact (jss_one (js_ret (je_callB (jc_sum rfl) (ja_cons (je_fz (jf_lc (own := [("k", 2)]) rfl nd (blkOk_by (by kernel_rfl)) (ji_seq (je_var 1)) (fun _ _ _ _ _ => (jg_name (i := 2) nd)) (fun _ _ _ _ _ => jts_nil) (fun _ _ _ _ _ => (je_ix jx_ix (je_var 0) (je_var 2))))) ja_nil) (fr_sum G) (by decide +kernel))))
theorem sc__law_comparison : FnScope ["script", "town", "things", "scale", "lots_now", "one", "other", "sign", "more"] ["script", "town", "things", "scale"] (defScope (top 104)) := ⟨rfl, rfl, rfl, by decide +kernel, rfl, by decide +kernel, by decide +kernel⟩
theorem ok__law_comparison (G : Fx fa fn qs K mg) : Cl P w K mg base 3 "_law_comparison" 4 f__law_comparison := by
  obtain ⟨fd, F⟩ := G.def_ 7 (d := d7) rfl rfl rfl
  refine cl_of F (G.glo 7 rfl) (F.bindsN fun _ _ _ _ _ _ us hl => match us, hl with | [_, _, _, _], _ => rfl) (fn_body (N := ["script", "town", "things", "scale", "lots_now", "one", "other", "sign", "more"]) (ps := ["script", "town", "things", "scale"]) F sc__law_comparison fun cdv A outer s H E hr => ?_)
  have nd := sc__law_comparison.nd
  exact (jss_cons (js_set 4 nd (je_call (ok__law_lots G) hr ctx_px (ja_cons (je_var 2) ja_nil)))
    (jss_cons (js_par (i := 5) (j := 6) rfl nd (ja_cons (je_call (ok__law_pick G) hr ctx_px (ja_cons (je_var 0) (ja_cons (je_var 1) (ja_cons (je_var 4) ja_nil)))) (ja_cons (je_call (ok__law_pick G) hr ctx_px (ja_cons (je_var 0) (ja_cons (je_var 1) (ja_cons (je_var 4) ja_nil)))) ja_nil)))
    (jss_cons (js_set 7 nd (je_call (ok__law_pick G) hr ctx_px (ja_cons (je_var 0) (ja_cons (je_var 1) (ja_cons (je_fz (jf_lst (ja_cons je_str (ja_cons je_str (ja_cons je_str (ja_cons je_str ja_nil)))))) ja_nil)))))
    (jss_cons (js_if (jt_cmp jo_gtI (je_call (ok__law_draw G) hr ctx_px (ja_cons (je_var 0) (ja_cons (je_var 1) (ja_cons je_int ja_nil)))) je_int) (jss_cons (js_set 8 nd (je_bin jo_sub (je_call (ok__law_weight G) hr ctx_px (ja_cons (je_var 3) (ja_cons (je_var 5) ja_nil))) (je_call (ok__law_weight G) hr ctx_px (ja_cons (je_var 3) (ja_cons (je_var 6) ja_nil)))))
    (jss_cons (js_asg (vs := [5, 6]) (je_ifExp (jt_cmp jo_geI (je_var 8) je_int) (je_tup (ja_cons (je_var 5) (ja_cons (je_var 6) ja_nil))) (je_tup (ja_cons (je_var 6) (ja_cons (je_var 5) ja_nil)))) (jg_tup rfl (jgs_cons (jg_name (i := 5) nd) (jgs_cons (jg_name (i := 6) nd) jgs_nil))))
    (jss_one (js_set 7 nd (je_ifExp (JW.jt (jw_or (JW.jt (jw_and (jt_cmp (jo_eq hr.units) (je_var 8) je_int) (jw_and1 (jt_cmp (jo_ne hr.units) (je_var 7) je_str)))) (jw_or1 (JW.jt (jw_and (jt_cmp (jo_ne hr.units) (je_var 8) je_int) (jw_and1 (jt_cmp (jo_ne hr.units) (je_var 7) je_str))))))) (je_var 7) je_str))))) jss_nil)
    (jss_one (js_ret (je_tup (ja_cons (je_var 5) (ja_cons (je_var 7) (ja_cons (je_var 6) ja_nil))))))))))
theorem sc__law_told : FnScope ["script", "town", "things", "most", "scale", "k"] ["script", "town", "things", "most"] (defScope (top 106)) := ⟨rfl, rfl, rfl, by decide +kernel, rfl, by decide +kernel, by decide +kernel⟩
theorem ok__law_told (G : Fx fa fn qs K mg) : Cl P w K mg base 4 "_law_told" 4 f__law_told := by
  obtain ⟨fd, F⟩ := G.def_ 8 (d := d8) rfl rfl rfl
  refine cl_of F (G.glo 8 rfl) (F.bindsN fun _ _ _ _ _ _ us hl => match us, hl with | [_, _, _, _], _ => rfl) (fn_body (N := ["script", "town", "things", "most", "scale", "k"]) (ps := ["script", "town", "things", "most"]) F sc__law_told fun cdv A outer s H E hr => ?_)
  have nd := sc__law_told.nd
  exact (jss_cons (js_set 4 nd (je_call (ok__law_scale G) hr ctx_px (ja_cons (je_var 0) (ja_cons (je_var 1) (ja_cons (je_var 2) ja_nil)))))
    (jss_one (js_ret (je_callTy jc_tuple (ja_cons (je_fz (jf_lc (own := [("k", 5)]) rfl nd (blkOk_by (by kernel_rfl)) (ji_range1 (ja_cons (je_call (ok__law_draw G) hr ctx_px (ja_cons (je_var 0) (ja_cons (je_var 1) (ja_cons (je_bin jo_add (je_var 3) je_int) ja_nil)))) ja_nil) (fr_range G)) (fun _ _ _ _ _ => (jg_name (i := 5) nd)) (fun _ _ _ _ _ => jts_nil) (fun _ _ _ _ _ => (je_call (ok__law_comparison G) hr passL (ja_cons (je_var 0) (ja_cons (je_var 1) (ja_cons (je_var 2) (ja_cons (je_var 4) ja_nil)))))))) ja_nil) (fr_tuple G) (by decide +kernel)))))
theorem sc_is_between : FnScope ["value", "low", "high"] ["value", "low", "high"] (defScope (top 14)) := ⟨rfl, rfl, rfl, by decide +kernel, rfl, by decide +kernel, by decide +kernel⟩
theorem ok_is_between (G : Fx fa fn qs K mg) : Cl P w K mg base 1 "is_between" 3 f_is_between := by
  obtain ⟨fd, F⟩ := G.def_ 9 (d := d9) rfl rfl rfl
  refine cl_of F (G.glo 9 rfl) (F.bindsN fun _ _ _ _ _ _ us hl => match us, hl with | [_, _, _], _ => rfl) (fn_body (N := ["value", "low", "high"]) (ps := ["value", "low", "high"]) F sc_is_between fun cdv A outer s H E hr => ?_)
  have nd := sc_is_between.nd
  exact (jss_one (js_ret (je_and (je_isi .int (je_var 0) (fr_isinstance G) (fr_int G) (by decide +kernel)) (je_and (je_not (je_isi .bl (je_var 0) (fr_isinstance G) (fr_bool G) (by decide +kernel))) (je_one (je_chain jo_leI jo_leI (je_var 1) (je_var 0) (je_var 2)))))))
theorem sc_check_things : FnScope ["value"] ["value"] (defScope (top 26)) := ⟨rfl, rfl, rfl, by decide +kernel, rfl, by decide +kernel, by decide +kernel⟩
theorem ok_check_things (G : Fx fa fn qs K mg) : Cl P w K mg base 2 "check_things" 1 f_check_things := by
  obtain ⟨fd, F⟩ := G.def_ 10 (d := d10) rfl rfl rfl
  refine cl_of F (G.glo 10 rfl) (F.bindsN fun _ _ _ _ _ _ us hl => match us, hl with | [_], _ => rfl) (fn_body (N := ["value"]) (ps := ["value"]) F sc_check_things fun cdv A outer s H E hr => ?_)
  have nd := sc_check_things.nd
  exact (jss_one (js_if (jt_not (jt_val (je_call (ok_is_between G) hr ctx_px (ja_cons (je_var 0) (ja_cons je_int (ja_cons je_int ja_nil)))))) (jss_one (js_raise rfl ctx_tk (G.exc "InvalidThings" (by decide)))) jss_nil))
theorem sc_is_found_lot : FnScope ["things", "value", "one", "k"] ["things", "value"] (defScope (top 22)) := ⟨rfl, rfl, rfl, by decide +kernel, rfl, by decide +kernel, by decide +kernel⟩
theorem ok_is_found_lot (G : Fx fa fn qs K mg) : Cl P w K mg base 2 "is_found_lot" 2 f_is_found_lot := by
  obtain ⟨fd, F⟩ := G.def_ 11 (d := d11) rfl rfl rfl
  refine cl_of F (G.glo 11 rfl) (F.bindsN fun _ _ _ _ _ _ us hl => match us, hl with | [_, _], _ => rfl) (fn_body (N := ["things", "value", "one", "k"]) (ps := ["things", "value"]) F sc_is_found_lot fun cdv A outer s H E hr => ?_)
  have nd := sc_is_found_lot.nd
  exact (jss_cons (js_if (JW.jt (jw_or (jt_not (jt_val (je_isi .tup (je_var 1) (fr_isinstance G) (fr_tuple G) (by decide +kernel)))) (jw_or1 (jt_not (jt_val (je_callB (jc_all rfl) (ja_cons (je_fz (jf_lc (own := [("one", 2)]) rfl nd (blkOk_by (by kernel_rfl)) (ji_seq (je_var 1)) (fun _ _ _ _ _ => (jg_name (i := 2) nd)) (fun _ _ _ _ _ => jts_nil) (fun _ _ _ _ _ => (je_call (ok_is_between G) hr passL (ja_cons (je_var 2) (ja_cons je_int (ja_cons (je_bin jo_sub (je_var 0) je_int) ja_nil))))))) ja_nil) (fr_all G) (by decide +kernel))))))) (jss_one (js_ret je_bl)) jss_nil)
    (jss_one (js_ret (je_callB (jc_all rfl) (ja_cons (je_fz (jf_lc (own := [("k", 3)]) rfl nd (blkOk_by (by kernel_rfl)) (ji_range1 (ja_cons (je_bin jo_sub (je_callB jc_len (ja_cons (je_var 1) ja_nil) (fr_len G) PySem.boot_len) je_int) ja_nil) (fr_range G)) (fun _ _ _ _ _ => (jg_name (i := 3) nd)) (fun _ _ _ _ _ => jts_nil) (fun _ _ _ _ _ => (je_cmp (jo_lt hr.units0) (je_ix jx_ix (je_var 1) (je_var 3)) (je_ix jx_ix (je_var 1) (je_bin jo_add (je_var 3) je_int)))))) ja_nil) (fr_all G) (by decide +kernel)))))
theorem sc_is_comparison : FnScope ["things", "value"] ["things", "value"] (defScope (top 23)) := ⟨rfl, rfl, rfl, by decide +kernel, rfl, by decide +kernel, by decide +kernel⟩
theorem ok_is_comparison (G : Fx fa fn qs K mg) : Cl P w K mg base 3 "is_comparison" 2 f_is_comparison := by
  obtain ⟨fd, F⟩ := G.def_ 12 (d := d12) rfl rfl rfl
  refine cl_of F (G.glo 12 rfl) (F.bindsN fun _ _ _ _ _ _ us hl => match us, hl with | [_, _], _ => rfl) (fn_body (N := ["things", "value"]) (ps := ["things", "value"]) F sc_is_comparison fun cdv A outer s H E hr => ?_)
  have nd := sc_is_comparison.nd
  exact (jss_cons (js_if (JW.jt (jw_or (jt_not (jt_val (je_isi .tup (je_var 1) (fr_isinstance G) (fr_tuple G) (by decide +kernel)))) (jw_or (jt_cmp (jo_ne hr.units) (je_callB jc_len (ja_cons (je_var 1) ja_nil) (fr_len G) PySem.boot_len) je_int) (jw_or (jt_not (jt_val (je_isi .str (je_ix jx_ix (je_var 1) je_int) (fr_isinstance G) (fr_str G) (by decide +kernel)))) (jw_or1 (jt_cmp (jo_nin (u65 hr)) (je_ix jx_ix (je_var 1) je_int) (G.signs rfl))))))) (jss_one (js_ret je_bl)) jss_nil)
    (jss_one (js_ret (je_and (je_call (ok_is_found_lot G) hr ctx_px (ja_cons (je_var 0) (ja_cons (je_ix jx_ix (je_var 1) je_int) ja_nil))) (je_one (je_call (ok_is_found_lot G) hr ctx_px (ja_cons (je_var 0) (ja_cons (je_ix jx_ix (je_var 1) je_int) ja_nil))))))))
theorem sc_are_told : FnScope ["things", "value", "one"] ["things", "value"] (defScope (top 24)) := ⟨rfl, rfl, rfl, by decide +kernel, rfl, by decide +kernel, by decide +kernel⟩
theorem ok_are_told (G : Fx fa fn qs K mg) : Cl P w K mg base 4 "are_told" 2 f_are_told := by
  obtain ⟨fd, F⟩ := G.def_ 13 (d := d13) rfl rfl rfl
  refine cl_of F (G.glo 13 rfl) (F.bindsN fun _ _ _ _ _ _ us hl => match us, hl with | [_, _], _ => rfl) (fn_body (N := ["things", "value", "one"]) (ps := ["things", "value"]) F sc_are_told fun cdv A outer s H E hr => ?_)
  have nd := sc_are_told.nd
  exact (jss_one (js_ret (je_and (je_isi .tup (je_var 1) (fr_isinstance G) (fr_tuple G) (by decide +kernel)) (je_and (je_cmp jo_leI (je_callB jc_len (ja_cons (je_var 1) ja_nil) (fr_len G) PySem.boot_len) je_int) (je_one (je_callB (jc_all rfl) (ja_cons (je_fz (jf_lc (own := [("one", 2)]) rfl nd (blkOk_by (by kernel_rfl)) (ji_seq (je_var 1)) (fun _ _ _ _ _ => (jg_name (i := 2) nd)) (fun _ _ _ _ _ => jts_nil) (fun _ _ _ _ _ => (je_call (ok_is_comparison G) hr passL (ja_cons (je_var 0) (ja_cons (je_var 2) ja_nil)))))) ja_nil) (fr_all G) (by decide +kernel)))))))
theorem sc_is_told : FnScope ["things", "value"] ["things", "value"] (defScope (top 32)) := ⟨rfl, rfl, rfl, by decide +kernel, rfl, by decide +kernel, by decide +kernel⟩
theorem ok_is_told (G : Fx fa fn qs K mg) : Cl P w K mg base 5 "is_told" 2 f_is_told := by
  obtain ⟨fd, F⟩ := G.def_ 14 (d := d14) rfl rfl rfl
  refine cl_of F (G.glo 14 rfl) (F.bindsN fun _ _ _ _ _ _ us hl => match us, hl with | [_, _], _ => rfl) (fn_body (N := ["things", "value"]) (ps := ["things", "value"]) F sc_is_told fun cdv A outer s H E hr => ?_)
  have nd := sc_is_told.nd
  exact (jss_cons (js_expr (je_call (ok_check_things G) hr ctx_px (ja_cons (je_var 0) ja_nil)))
    (jss_one (js_ret (je_call (ok_are_told G) hr ctx_px (ja_cons (je_var 0) (ja_cons (je_var 1) ja_nil))))))
theorem sc__law_wrong : FnScope ["told", "found", "fine", "bad", "k"] ["told"] (defScope (top 109)) := ⟨rfl, rfl, rfl, by decide +kernel, rfl, by decide +kernel, by decide +kernel⟩
theorem ok__law_wrong (G : Fx fa fn qs K mg) : Cl P w K mg base 1 "_law_wrong" 1 f__law_wrong := by
  obtain ⟨fd, F⟩ := G.def_ 15 (d := d15) rfl rfl rfl
  refine cl_of F (G.glo 15 rfl) (F.bindsN fun _ _ _ _ _ _ us hl => match us, hl with | [_], _ => rfl) (fn_body (N := ["told", "found", "fine", "bad", "k"]) (ps := ["told"]) F sc__law_wrong fun cdv A outer s H E hr => ?_)
  have nd := sc__law_wrong.nd
  exact (jss_cons (js_asg (vs := [1, 2]) (je_tup (ja_cons (je_ow (jf_lst ja_nil)) (ja_cons (je_tup (ja_cons (je_tup (ja_cons je_int ja_nil)) (ja_cons je_str (ja_cons (je_tup (ja_cons je_int ja_nil)) ja_nil)))) ja_nil))) (jg_tup rfl (jgs_cons (jg_name (i := 1) nd) (jgs_cons (jg_name (i := 2) nd) jgs_nil))))
    (jss_cons (js_for (vs := [3]) ctx_po rfl (ji_seq (je_tup (ja_cons je_non (ja_cons je_int (ja_cons je_int (ja_cons je_bl (ja_cons je_str (ja_cons (je_tup (ja_cons je_int ja_nil)) ja_nil)))))))) (jg_name (i := 3) nd) (jss_one (js_set 1 nd (je_ow (jf_add (je_frz (je_var 1)) (je_fz (jf_lc (own := [("k", 4)]) rfl nd (blkOk_by (by kernel_rfl)) (ji_seq (je_bin jo_add (je_fz (jf_listRg rfl je_int (fr_list G) (fr_range G))) (je_fz (jf_lst (ja_cons je_int (ja_cons je_int (ja_cons je_int (ja_cons je_int (ja_cons je_int (ja_cons je_int ja_nil)))))))))) (fun _ _ _ _ _ => (jg_name (i := 4) nd)) (fun _ _ _ _ _ => jts_nil) (fun _ _ _ _ _ => (je_tup (ja_cons (je_var 4) (ja_cons (je_tup (ja_cons (je_var 3) (ja_cons (je_var 0) (ja_cons (je_var 2) (ja_cons je_int ja_nil))))) (ja_cons je_str ja_nil))))))))))))
    (jss_cons (js_for (vs := [3]) ctx_po rfl (ji_seq (je_tup (ja_cons je_non (ja_cons (je_tup (ja_cons je_int (ja_cons je_int ja_nil))) (ja_cons (je_tup (ja_cons je_int (ja_cons je_int (ja_cons je_int ja_nil)))) (ja_cons (je_tup (ja_cons je_int (ja_cons je_int (ja_cons je_bl ja_nil)))) (ja_cons (je_fz (jf_lst (ja_cons je_int (ja_cons je_int (ja_cons je_int ja_nil))))) (ja_cons (je_tup (ja_cons je_int (ja_cons je_int (ja_cons (je_neg je_int) ja_nil)))) (ja_cons (je_tup (ja_cons je_int (ja_cons je_int (ja_cons je_int (ja_cons je_int ja_nil))))) ja_nil))))))))) (jg_name (i := 3) nd) (jss_one (js_expr (je_append (je_var 1) (ja_cons (je_tup (ja_cons je_int (ja_cons (je_tup (ja_cons je_int (ja_cons (je_var 0) (ja_cons (je_var 3) (ja_cons je_int ja_nil))))) (ja_cons je_str ja_nil)))) ja_nil)))))
    (jss_cons (js_for (vs := [3]) ctx_po rfl (ji_seq (je_tup (ja_cons je_non (ja_cons (je_tup ja_nil) (ja_cons (je_bin jo_mul (je_tup (ja_cons je_int ja_nil)) je_int) (ja_cons (je_tup (ja_cons je_int ja_nil)) (ja_cons (je_fz (jf_lst (ja_cons je_int ja_nil))) (ja_cons (je_tup (ja_cons je_bl ja_nil)) ja_nil)))))))) (jg_name (i := 3) nd) (jss_cons (js_set 1 nd (je_ow (jf_add (je_frz (je_var 1)) (je_fz (jf_lst (ja_cons (je_tup (ja_cons je_int (ja_cons (je_tup (ja_cons (je_var 3) (ja_cons (je_tup (ja_cons je_int ja_nil)) (ja_cons je_int (ja_cons je_int ja_nil))))) (ja_cons je_str ja_nil)))) (ja_cons (je_tup (ja_cons je_int (ja_cons (je_tup (ja_cons (je_var 3) (ja_cons (je_var 2) (ja_cons je_int (ja_cons je_int ja_nil))))) (ja_cons je_str ja_nil)))) ja_nil)))))))
    (jss_one (js_expr (je_append (je_var 1) (ja_cons (je_tup (ja_cons je_int (ja_cons (je_tup (ja_cons (je_var 3) (ja_cons je_int (ja_cons je_int (ja_cons je_int ja_nil))))) (ja_cons je_str ja_nil)))) ja_nil))))))
    (jss_cons (js_for (vs := [3]) ctx_po rfl (ji_seq (je_tup (ja_cons je_non (ja_cons (je_tup (ja_cons je_int ja_nil)) (ja_cons (je_tup (ja_cons je_int (ja_cons je_int ja_nil))) (ja_cons (je_fz (jf_lst (ja_cons je_int ja_nil))) (ja_cons (je_tup (ja_cons je_bl ja_nil)) ja_nil))))))) (jg_name (i := 3) nd) (jss_cons (js_set 1 nd (je_ow (jf_add (je_frz (je_var 1)) (je_fz (jf_lst (ja_cons (je_tup (ja_cons je_int (ja_cons (je_tup (ja_cons (je_tup (ja_cons je_int (ja_cons je_int (ja_cons je_int ja_nil)))) (ja_cons (je_var 3) (ja_cons je_int (ja_cons je_int ja_nil))))) (ja_cons je_str ja_nil)))) (ja_cons (je_tup (ja_cons je_int (ja_cons (je_tup (ja_cons je_int (ja_cons (je_var 0) (ja_cons (je_var 3) (ja_cons (je_tup (ja_cons je_int ja_nil)) ja_nil))))) (ja_cons je_str ja_nil)))) ja_nil)))))))
    (jss_one (js_set 1 nd (je_ow (jf_add (je_frz (je_var 1)) (je_fz (jf_lst (ja_cons (je_tup (ja_cons je_int (ja_cons (je_tup (ja_cons je_int (ja_cons (je_var 0) (ja_cons (je_tup ja_nil) (ja_cons (je_var 3) ja_nil))))) (ja_cons je_str ja_nil)))) (ja_cons (je_tup (ja_cons je_int (ja_cons (je_tup (ja_cons je_int (ja_cons (je_var 0) (ja_cons (je_var 3) (ja_cons je_int ja_nil))))) (ja_cons je_str ja_nil)))) ja_nil))))))))))
    (jss_cons (js_for (vs := [3]) ctx_po rfl (ji_seq (je_tup (ja_cons je_non (ja_cons (je_tup ja_nil) (ja_cons (je_tup (ja_cons (je_tup (ja_cons je_int ja_nil)) (ja_cons je_str (ja_cons (je_tup (ja_cons je_int ja_nil)) ja_nil)))) (ja_cons (je_tup (ja_cons (je_tup (ja_cons je_int ja_nil)) (ja_cons je_str (ja_cons (je_tup ja_nil) ja_nil)))) (ja_cons (je_fz (jf_lst (ja_cons (je_tup (ja_cons je_int ja_nil)) (ja_cons je_str (ja_cons (je_tup (ja_cons je_int ja_nil)) ja_nil))))) (ja_cons (je_tup (ja_cons (je_tup (ja_cons je_int ja_nil)) (ja_cons je_str ja_nil))) ja_nil)))))))) (jg_name (i := 3) nd) (jss_cons (js_set 1 nd (je_ow (jf_add (je_frz (je_var 1)) (je_fz (jf_lc (own := [("k", 4)]) rfl nd (blkOk_by (by kernel_rfl)) (ji_seq (je_tup (ja_cons je_int (ja_cons je_int (ja_cons je_int ja_nil))))) (fun _ _ _ _ _ => (jg_name (i := 4) nd)) (fun _ _ _ _ _ => jts_nil) (fun _ _ _ _ _ => (je_tup (ja_cons (je_var 4) (ja_cons (je_tup (ja_cons je_int (ja_cons (je_var 0) (ja_cons (je_var 3) (ja_cons (je_tup ja_nil) ja_nil))))) (ja_cons je_str ja_nil))))))))))
    (jss_one (js_expr (je_append (je_var 1) (ja_cons (je_tup (ja_cons je_int (ja_cons (je_tup (ja_cons (je_tup (ja_cons je_int (ja_cons je_int (ja_cons je_int ja_nil)))) (ja_cons (je_var 3) (ja_cons je_int (ja_cons je_int ja_nil))))) (ja_cons je_str ja_nil)))) ja_nil))))))
    (jss_cons (js_set 1 nd (je_ow (jf_add (je_frz (je_var 1)) (je_fz (jf_lc (own := [("k", 4)]) rfl nd (blkOk_by (by kernel_rfl)) (ji_seq (je_tup (ja_cons je_int (ja_cons je_int ja_nil)))) (fun _ _ _ _ _ => (jg_name (i := 4) nd)) (fun _ _ _ _ _ => jts_nil) (fun _ _ _ _ _ => (je_tup (ja_cons (je_var 4) (ja_cons (je_tup (ja_cons je_int (ja_cons (je_var 0) (ja_cons (je_tup (ja_cons (je_tup (ja_cons je_int ja_nil)) (ja_cons je_str (ja_cons (je_tup (ja_cons je_int ja_nil)) ja_nil)))) (ja_cons (je_tup ja_nil) ja_nil))))) (ja_cons je_str ja_nil))))))))))
    (jss_cons (js_for (vs := [3]) ctx_po rfl (ji_seq (je_tup (ja_cons je_non (ja_cons (je_neg je_int) (ja_cons je_int (ja_cons je_bl (ja_cons je_str ja_nil))))))) (jg_name (i := 3) nd) (jss_one (js_expr (je_append (je_var 1) (ja_cons (je_tup (ja_cons je_int (ja_cons (je_tup (ja_cons je_int (ja_cons (je_var 0) (ja_cons (je_var 3) (ja_cons je_non ja_nil))))) (ja_cons je_str ja_nil)))) ja_nil)))))
    (jss_cons (js_for (vs := [3]) ctx_po rfl (ji_seq (je_tup (ja_cons je_non (ja_cons je_int (ja_cons je_int (ja_cons je_bl (ja_cons je_str ja_nil))))))) (jg_name (i := 3) nd) (jss_one (js_expr (je_append (je_var 1) (ja_cons (je_tup (ja_cons je_int (ja_cons (je_tup (ja_cons je_int (ja_cons (je_var 0) (ja_cons (je_tup (ja_cons je_int ja_nil)) (ja_cons (je_var 3) ja_nil))))) (ja_cons je_str ja_nil)))) ja_nil)))))
    (jss_cons (js_set 1 nd (je_ow (jf_add (je_bin jo_add (je_frz (je_var 1)) (je_fz (jf_lc (own := [("k", 4)]) rfl nd (blkOk_by (by kernel_rfl)) (ji_seq (je_tup (ja_cons je_int (ja_cons je_int (ja_cons je_int (ja_cons je_int ja_nil)))))) (fun _ _ _ _ _ => (jg_name (i := 4) nd)) (fun _ _ _ _ _ => jts_nil) (fun _ _ _ _ _ => (je_tup (ja_cons (je_var 4) (ja_cons (je_tup (ja_cons je_int (ja_cons (je_tup ja_nil) (ja_cons je_int (ja_cons je_int ja_nil))))) (ja_cons je_str ja_nil)))))))) (je_fz (jf_lst (ja_cons (je_tup (ja_cons je_int (ja_cons (je_tup (ja_cons je_int (ja_cons (je_tup ja_nil) (ja_cons je_int (ja_cons je_int ja_nil))))) (ja_cons je_str ja_nil)))) ja_nil))))))
    (jss_cons (js_set 1 nd (je_ow (jf_add (je_frz (je_var 1)) (je_fz (jf_lst (ja_cons (je_tup (ja_cons je_int (ja_cons (je_tup (ja_cons je_int (ja_cons (je_tup ja_nil) (ja_cons je_int (ja_cons je_non ja_nil))))) (ja_cons je_str ja_nil)))) (ja_cons (je_tup (ja_cons je_int (ja_cons (je_tup (ja_cons je_int (ja_cons je_int (ja_cons je_int (ja_cons je_int ja_nil))))) (ja_cons je_str ja_nil)))) ja_nil)))))))
    (jss_one (js_ret (je_bin jo_add (je_frz (je_var 1)) (je_fz (jf_lst (ja_cons (je_tup (ja_cons je_int (ja_cons (je_tup (ja_cons je_int (ja_cons je_int (ja_cons je_int (ja_cons je_int ja_nil))))) (ja_cons je_str ja_nil)))) (ja_cons (je_tup (ja_cons je_int (ja_cons (je_tup (ja_cons je_int (ja_cons (je_tup ja_nil) (ja_cons (je_tup ja_nil) (ja_cons je_int ja_nil))))) (ja_cons je_str ja_nil)))) ja_nil))))))))))))))))))
theorem sc_check_told : FnScope ["things", "told"] ["things", "told"] (defScope (top 27)) := ⟨rfl, rfl, rfl, by decide +kernel, rfl, by decide +kernel, by decide +kernel⟩
theorem ok_check_told (G : Fx fa fn qs K mg) : Cl P w K mg base 5 "check_told" 2 f_check_told := by
  obtain ⟨fd, F⟩ := G.def_ 16 (d := d16) rfl rfl rfl
  refine cl_of F (G.glo 16 rfl) (F.bindsN fun _ _ _ _ _ _ us hl => match us, hl with | [_, _], _ => rfl) (fn_body (N := ["things", "told"]) (ps := ["things", "told"]) F sc_check_told fun cdv A outer s H E hr => ?_)
  have nd := sc_check_told.nd
  exact (jss_cons (js_expr (je_call (ok_check_things G) hr ctx_px (ja_cons (je_var 0) ja_nil)))
    (jss_one (js_if (jt_not (jt_val (je_call (ok_are_told G) hr ctx_px (ja_cons (je_var 0) (ja_cons (je_var 1) ja_nil))))) (jss_one (js_raise rfl ctx_tk (G.exc "InvalidTold" (by decide)))) jss_nil)))
theorem sc_does_balance : FnScope ["things", "told", "value", "rows", "excess", "one", "comparison", "thing", "row"] ["things", "told", "value"] (defScope (top 48)) := ⟨rfl, rfl, rfl, by decide +kernel, rfl, by decide +kernel, by decide +kernel⟩
theorem ok_does_balance (G : Fx fa fn qs K mg) : Cl P w K mg base 1 "does_balance" 3 f_does_balance := by
  obtain ⟨fd, F⟩ := G.def_ 17 (d := d17) rfl rfl rfl
  refine cl_of F (G.glo 17 rfl) (F.bindsN fun _ _ _ _ _ _ us hl => match us, hl with | [_, _, _], _ => rfl) (fn_body (N := ["things", "told", "value", "rows", "excess", "one", "comparison", "thing", "row"]) (ps := ["things", "told", "value"]) F sc_does_balance fun cdv A outer s H E hr => ?_)
  have nd := sc_does_balance.nd
  exact (jss_cons (js_if (JW.jt (jw_or (jt_not (jt_val (je_isi .tup (je_var 2) (fr_isinstance G) (fr_tuple G) (by decide +kernel)))) (jw_or1 (jt_cmp (jo_ne hr.units) (je_callB jc_len (ja_cons (je_var 2) ja_nil) (fr_len G) PySem.boot_len) (je_callB jc_len (ja_cons (je_var 1) ja_nil) (fr_len G) PySem.boot_len))))) (jss_one (js_ret je_bl)) jss_nil)
    jss_no)
theorem sc_is_balance : FnScope ["things", "told", "value"] ["things", "told", "value"] (defScope (top 47)) := ⟨rfl, rfl, rfl, by decide +kernel, rfl, by decide +kernel, by decide +kernel⟩
theorem ok_is_balance (G : Fx fa fn qs K mg) : Cl P w K mg base 6 "is_balance" 3 f_is_balance := by
  obtain ⟨fd, F⟩ := G.def_ 18 (d := d18) rfl rfl rfl
  refine cl_of F (G.glo 18 rfl) (F.bindsN fun _ _ _ _ _ _ us hl => match us, hl with | [_, _, _], _ => rfl) (fn_body (N := ["things", "told", "value"]) (ps := ["things", "told", "value"]) F sc_is_balance fun cdv A outer s H E hr => ?_)
  have nd := sc_is_balance.nd
  exact (jss_cons (js_expr (je_call (ok_check_told G) hr ctx_px (ja_cons (je_var 0) (ja_cons (je_var 1) ja_nil))))
    (jss_one (js_ret (je_call (ok_does_balance G) hr ctx_px (ja_cons (je_var 0) (ja_cons (je_var 1) (ja_cons (je_var 2) ja_nil)))))))
theorem sc_is_lot : FnScope ["things", "value"] ["things", "value"] (defScope (top 31)) := ⟨rfl, rfl, rfl, by decide +kernel, rfl, by decide +kernel, by decide +kernel⟩
theorem ok_is_lot (G : Fx fa fn qs K mg) : Cl P w K mg base 3 "is_lot" 2 f_is_lot := by
  obtain ⟨fd, F⟩ := G.def_ 19 (d := d19) rfl rfl rfl
  refine cl_of F (G.glo 19 rfl) (F.bindsN fun _ _ _ _ _ _ us hl => match us, hl with | [_, _], _ => rfl) (fn_body (N := ["things", "value"]) (ps := ["things", "value"]) F sc_is_lot fun cdv A outer s H E hr => ?_)
  have nd := sc_is_lot.nd
  exact (jss_cons (js_expr (je_call (ok_check_things G) hr ctx_px (ja_cons (je_var 0) ja_nil)))
    (jss_one (js_ret (je_call (ok_is_found_lot G) hr ctx_px (ja_cons (je_var 0) (ja_cons (je_var 1) ja_nil))))))
theorem sc_check_lot : FnScope ["things", "value"] ["things", "value"] (defScope (top 28)) := ⟨rfl, rfl, rfl, by decide +kernel, rfl, by decide +kernel, by decide +kernel⟩
theorem ok_check_lot (G : Fx fa fn qs K mg) : Cl P w K mg base 3 "check_lot" 2 f_check_lot := by
  obtain ⟨fd, F⟩ := G.def_ 20 (d := d20) rfl rfl rfl
  refine cl_of F (G.glo 20 rfl) (F.bindsN fun _ _ _ _ _ _ us hl => match us, hl with | [_, _], _ => rfl) (fn_body (N := ["things", "value"]) (ps := ["things", "value"]) F sc_check_lot fun cdv A outer s H E hr => ?_)
  have nd := sc_check_lot.nd
  exact (jss_one (js_if (jt_not (jt_val (je_call (ok_is_found_lot G) hr ctx_px (ja_cons (je_var 0) (ja_cons (je_var 1) ja_nil))))) (jss_one (js_raise rfl ctx_tk (G.exc "InvalidLot" (by decide)))) jss_nil))
theorem sc_naive_possible : FnScope ["things", "told", "one", "other", "most", "some", "differences", "found", "sign", "is_so", "weights", "k"] ["things", "told", "one", "other", "most"] (defScope (top 94)) := ⟨rfl, rfl, rfl, by decide +kernel, rfl, by decide +kernel, by decide +kernel⟩
theorem ok_naive_possible (G : Fx fa fn qs K mg) : Cl P w K mg base 6 "naive_possible" 5 f_naive_possible := by
  obtain ⟨fd, F⟩ := G.def_ 21 (d := d21) rfl rfl rfl
  refine cl_of F (G.glo 21 rfl) (F.bindsN fun _ _ _ _ _ _ us hl => match us, hl with | [_, _, _, _, _], _ => rfl) (fn_body (N := ["things", "told", "one", "other", "most", "some", "differences", "found", "sign", "is_so", "weights", "k"]) (ps := ["things", "told", "one", "other", "most"]) F sc_naive_possible fun cdv A outer s H E hr => ?_)
  have nd := sc_naive_possible.nd
  exact (jss_cons (js_expr (je_call (ok_check_told G) hr ctx_px (ja_cons (je_var 0) (ja_cons (je_var 1) ja_nil))))
    (jss_cons (js_expr (je_call (ok_check_lot G) hr ctx_px (ja_cons (je_var 0) (ja_cons (je_var 2) ja_nil))))
    (jss_cons (js_expr (je_call (ok_check_lot G) hr ctx_px (ja_cons (je_var 0) (ja_cons (je_var 3) ja_nil))))
    (jss_cons (js_if (jt_not (jt_val (je_call (ok_is_between G) hr ctx_px (ja_cons (je_var 4) (ja_cons je_int (ja_cons je_int ja_nil)))))) (jss_one (js_raise rfl ctx_tk (G.exc "InvalidNumber" (by decide)))) jss_nil)
    (jss_cons (js_if (jt_cmp jo_gtI (je_var 0) je_int) (jss_one (js_raise rfl ctx_tk (G.exc "TooMany" (by decide)))) jss_nil)
    jss_no)))))
theorem sc_are_weights : FnScope ["value", "one"] ["value"] (defScope (top 25)) := ⟨rfl, rfl, rfl, by decide +kernel, rfl, by decide +kernel, by decide +kernel⟩
theorem ok_are_weights (G : Fx fa fn qs K mg) : Cl P w K mg base 1 "are_weights" 1 f_are_weights := by
  obtain ⟨fd, F⟩ := G.def_ 22 (d := d22) rfl rfl rfl
  refine cl_of F (G.glo 22 rfl) (F.bindsN fun _ _ _ _ _ _ us hl => match us, hl with | [_], _ => rfl) (fn_body (N := ["value", "one"]) (ps := ["value"]) F sc_are_weights fun cdv A outer s H E hr => ?_)
  have nd := sc_are_weights.nd
  exact (jss_cons (js_if (JW.jt (jw_or (jt_not (jt_val (je_isi .tup (je_var 0) (fr_isinstance G) (fr_tuple G) (by decide +kernel)))) (jw_or1 (jt_not (jt_chain jo_leI jo_leI je_int (je_callB jc_len (ja_cons (je_var 0) ja_nil) (fr_len G) PySem.boot_len) je_int))))) (jss_one (js_ret je_bl)) jss_nil)
    (jss_one (js_ret (je_callB (jc_all rfl) (ja_cons (je_fz (jf_lc (own := [("one", 1)]) rfl nd (blkOk_by (by kernel_rfl)) (ji_seq (je_var 0)) (fun _ _ _ _ _ => (jg_name (i := 1) nd)) (fun _ _ _ _ _ => jts_nil) (fun _ _ _ _ _ => (je_and (je_isi .int (je_var 1) (fr_isinstance G) (fr_int G) (by decide +kernel)) (je_and (je_not (je_isi .bl (je_var 1) (fr_isinstance G) (fr_bool G) (by decide +kernel))) (je_one (je_cmp jo_gtI (je_var 1) je_int))))))) ja_nil) (fr_all G) (by decide +kernel)))))
theorem sc_check_weights : FnScope ["value"] ["value"] (defScope (top 29)) := ⟨rfl, rfl, rfl, by decide +kernel, rfl, by decide +kernel, by decide +kernel⟩
theorem ok_check_weights (G : Fx fa fn qs K mg) : Cl P w K mg base 2 "check_weights" 1 f_check_weights := by
  obtain ⟨fd, F⟩ := G.def_ 23 (d := d23) rfl rfl rfl
  refine cl_of F (G.glo 23 rfl) (F.bindsN fun _ _ _ _ _ _ us hl => match us, hl with | [_], _ => rfl) (fn_body (N := ["value"]) (ps := ["value"]) F sc_check_weights fun cdv A outer s H E hr => ?_)
  have nd := sc_check_weights.nd
  exact (jss_one (js_if (jt_not (jt_val (je_call (ok_are_weights G) hr ctx_px (ja_cons (je_var 0) ja_nil)))) (jss_one (js_raise rfl ctx_tk (G.exc "InvalidWeights" (by decide)))) jss_nil))
theorem sc_check_comparison : FnScope ["things", "value"] ["things", "value"] (defScope (top 30)) := ⟨rfl, rfl, rfl, by decide +kernel, rfl, by decide +kernel, by decide +kernel⟩
theorem ok_check_comparison (G : Fx fa fn qs K mg) : Cl P w K mg base 4 "check_comparison" 2 f_check_comparison := by
  obtain ⟨fd, F⟩ := G.def_ 24 (d := d24) rfl rfl rfl
  refine cl_of F (G.glo 24 rfl) (F.bindsN fun _ _ _ _ _ _ us hl => match us, hl with | [_, _], _ => rfl) (fn_body (N := ["things", "value"]) (ps := ["things", "value"]) F sc_check_comparison fun cdv A outer s H E hr => ?_)
  have nd := sc_check_comparison.nd
  exact (jss_one (js_if (jt_not (jt_val (je_call (ok_is_comparison G) hr ctx_px (ja_cons (je_var 0) (ja_cons (je_var 1) ja_nil))))) (jss_one (js_raise rfl ctx_tk (G.exc "InvalidComparison" (by decide)))) jss_nil))
theorem sc_holds : FnScope ["weights", "comparison"] ["weights", "comparison"] (defScope (top 36)) := ⟨rfl, rfl, rfl, by decide +kernel, rfl, by decide +kernel, by decide +kernel⟩
theorem ok_holds (G : Fx fa fn qs K mg) : Cl P w K mg base 5 "holds" 2 f_holds := by
  obtain ⟨fd, F⟩ := G.def_ 25 (d := d25) rfl rfl rfl
  refine cl_of F (G.glo 25 rfl) (F.bindsN fun _ _ _ _ _ _ us hl => match us, hl with | [_, _], _ => rfl) (fn_body (N := ["weights", "comparison"]) (ps := ["weights", "comparison"]) F sc_holds fun cdv A outer s H E hr => ?_)
  have nd := sc_holds.nd
  exact (jss_cons (js_expr (je_call (ok_check_weights G) hr ctx_px (ja_cons (je_var 0) ja_nil)))
    (jss_cons (js_expr (je_call (ok_check_comparison G) hr ctx_px (ja_cons (je_callB jc_len (ja_cons (je_var 0) ja_nil) (fr_len G) PySem.boot_len) (ja_cons (je_var 1) ja_nil))))
    jss_no))
theorem sc_some_weights : FnScope ["things", "told"] ["things", "told"] (defScope (top 45)) := ⟨rfl, rfl, rfl, by decide +kernel, rfl, by decide +kernel, by decide +kernel⟩
theorem ok_some_weights (G : Fx fa fn qs K mg) : Cl P w K mg base 6 "some_weights" 2 f_some_weights := by
  obtain ⟨fd, F⟩ := G.def_ 26 (d := d26) rfl rfl rfl
  refine cl_of F (G.glo 26 rfl) (F.bindsN fun _ _ _ _ _ _ us hl => match us, hl with | [_, _], _ => rfl) (fn_body (N := ["things", "told"]) (ps := ["things", "told"]) F sc_some_weights fun cdv A outer s H E hr => ?_)
  have nd := sc_some_weights.nd
  exact (jss_cons (js_expr (je_call (ok_check_told G) hr ctx_px (ja_cons (je_var 0) (ja_cons (je_var 1) ja_nil))))
    jss_no)
theorem sc_least_weights : FnScope ["things", "told", "total", "weights"] ["things", "told"] (defScope (top 50)) := ⟨rfl, rfl, rfl, by decide +kernel, rfl, by decide +kernel, by decide +kernel⟩
theorem ok_least_weights (G : Fx fa fn qs K mg) : Cl P w K mg base 6 "least_weights" 2 f_least_weights := by
  obtain ⟨fd, F⟩ := G.def_ 27 (d := d27) rfl rfl rfl
  refine cl_of F (G.glo 27 rfl) (F.bindsN fun _ _ _ _ _ _ us hl => match us, hl with | [_, _], _ => rfl) (fn_body (N := ["things", "told", "total", "weights"]) (ps := ["things", "told"]) F sc_least_weights fun cdv A outer s H E hr => ?_)
  have nd := sc_least_weights.nd
  exact (jss_cons (js_expr (je_call (ok_check_told G) hr ctx_px (ja_cons (je_var 0) (ja_cons (je_var 1) ja_nil))))
    (jss_cons (js_if (jt_cmp jo_gtI (je_var 0) je_int) (jss_one (js_raise rfl ctx_tk (G.exc "TooMany" (by decide)))) jss_nil)
    jss_no))
theorem sc_balance : FnScope ["things", "told"] ["things", "told"] (defScope (top 46)) := ⟨rfl, rfl, rfl, by decide +kernel, rfl, by decide +kernel, by decide +kernel⟩
theorem ok_balance (G : Fx fa fn qs K mg) : Cl P w K mg base 6 "balance" 2 f_balance := by
  obtain ⟨fd, F⟩ := G.def_ 28 (d := d28) rfl rfl rfl
  refine cl_of F (G.glo 28 rfl) (F.bindsN fun _ _ _ _ _ _ us hl => match us, hl with | [_, _], _ => rfl) (fn_body (N := ["things", "told"]) (ps := ["things", "told"]) F sc_balance fun cdv A outer s H E hr => ?_)
  have nd := sc_balance.nd
  exact (jss_cons (js_expr (je_call (ok_check_told G) hr ctx_px (ja_cons (je_var 0) (ja_cons (je_var 1) ja_nil))))
    jss_no)
theorem sc_clash : FnScope ["things", "told", "size", "numbers", "k"] ["things", "told"] (defScope (top 52)) := ⟨rfl, rfl, rfl, by decide +kernel, rfl, by decide +kernel, by decide +kernel⟩
theorem ok_clash (G : Fx fa fn qs K mg) : Cl P w K mg base 6 "clash" 2 f_clash := by
  obtain ⟨fd, F⟩ := G.def_ 29 (d := d29) rfl rfl rfl
  refine cl_of F (G.glo 29 rfl) (F.bindsN fun _ _ _ _ _ _ us hl => match us, hl with | [_, _], _ => rfl) (fn_body (N := ["things", "told", "size", "numbers", "k"]) (ps := ["things", "told"]) F sc_clash fun cdv A outer s H E hr => ?_)
  have nd := sc_clash.nd
  exact (jss_cons (js_expr (je_call (ok_check_told G) hr ctx_px (ja_cons (je_var 0) (ja_cons (je_var 1) ja_nil))))
    jss_no)
theorem sc_needless : FnScope ["things", "told", "k"] ["things", "told"] (defScope (top 61)) := ⟨rfl, rfl, rfl, by decide +kernel, rfl, by decide +kernel, by decide +kernel⟩
theorem ok_needless (G : Fx fa fn qs K mg) : Cl P w K mg base 6 "needless" 2 f_needless := by
  obtain ⟨fd, F⟩ := G.def_ 30 (d := d30) rfl rfl rfl
  refine cl_of F (G.glo 30 rfl) (F.bindsN fun _ _ _ _ _ _ us hl => match us, hl with | [_, _], _ => rfl) (fn_body (N := ["things", "told", "k"]) (ps := ["things", "told"]) F sc_needless fun cdv A outer s H E hr => ?_)
  have nd := sc_needless.nd
  exact (jss_cons (js_expr (je_call (ok_check_told G) hr ctx_px (ja_cons (je_var 0) (ja_cons (je_var 1) ja_nil))))
    jss_no)
theorem sc_found_agreeing : FnScope ["things", "told", "order", "weights"] ["things", "told"] (defScope (top 72)) := ⟨rfl, rfl, rfl, by decide +kernel, rfl, by decide +kernel, by decide +kernel⟩
theorem ok_found_agreeing (G : Fx fa fn qs K mg) : Cl P w K mg base 6 "found_agreeing" 2 f_found_agreeing := by
  obtain ⟨fd, F⟩ := G.def_ 31 (d := d31) rfl rfl rfl
  refine cl_of F (G.glo 31 rfl) (F.bindsN fun _ _ _ _ _ _ us hl => match us, hl with | [_, _], _ => rfl) (fn_body (N := ["things", "told", "order", "weights"]) (ps := ["things", "told"]) F sc_found_agreeing fun cdv A outer s H E hr => ?_)
  have nd := sc_found_agreeing.nd
  exact (jss_cons (js_expr (je_call (ok_check_told G) hr ctx_px (ja_cons (je_var 0) (ja_cons (je_var 1) ja_nil))))
    (jss_cons (js_if (jt_cmp jo_gtI (je_var 0) je_int) (jss_one (js_raise rfl ctx_tk (G.exc "TooMany" (by decide)))) jss_nil)
    jss_no))
theorem sc_agreeing : FnScope ["things", "told", "order", "weights"] ["things", "told"] (defScope (top 73)) := ⟨rfl, rfl, rfl, by decide +kernel, rfl, by decide +kernel, by decide +kernel⟩
theorem ok_agreeing (G : Fx fa fn qs K mg) : Cl P w K mg base 7 "agreeing" 2 f_agreeing := by
  obtain ⟨fd, F⟩ := G.def_ 32 (d := d32) rfl rfl rfl
  refine cl_of F (G.glo 32 rfl) (F.bindsN fun _ _ _ _ _ _ us hl => match us, hl with | [_, _], _ => rfl) (fn_body (N := ["things", "told", "order", "weights"]) (ps := ["things", "told"]) F sc_agreeing fun cdv A outer s H E hr => ?_)
  have nd := sc_agreeing.nd
  exact (jss_one (js_ret (je_callTy jc_tuple (ja_cons (je_fz (jf_lc (own := [("order", 2), ("weights", 3)]) rfl nd (blkOk_by (by kernel_rfl)) (ji_seq (je_call (ok_found_agreeing G) hr ctx_px (ja_cons (je_var 0) (ja_cons (je_var 1) ja_nil)))) (fun _ _ _ _ _ => (jg_tup rfl (jgs_cons (jg_name (i := 2) nd) (jgs_cons (jg_name (i := 3) nd) jgs_nil)))) (fun _ _ _ _ _ => jts_nil) (fun _ _ _ _ _ => (je_var 2)))) ja_nil) (fr_tuple G) (by decide +kernel))))
theorem sc_weights_left : FnScope ["things", "told", "found", "order", "weights"] ["things", "told"] (defScope (top 74)) := ⟨rfl, rfl, rfl, by decide +kernel, rfl, by decide +kernel, by decide +kernel⟩
theorem ok_weights_left (G : Fx fa fn qs K mg) : Cl P w K mg base 7 "weights_left" 2 f_weights_left := by
  obtain ⟨fd, F⟩ := G.def_ 33 (d := d33) rfl rfl rfl
  refine cl_of F (G.glo 33 rfl) (F.bindsN fun _ _ _ _ _ _ us hl => match us, hl with | [_, _], _ => rfl) (fn_body (N := ["things", "told", "found", "order", "weights"]) (ps := ["things", "told"]) F sc_weights_left fun cdv A outer s H E hr => ?_)
  have nd := sc_weights_left.nd
  exact (jss_cons (js_set 2 nd (je_callTy jc_tuple (ja_cons (je_fz (jf_lc (own := [("order", 3), ("weights", 4)]) rfl nd (blkOk_by (by kernel_rfl)) (ji_seq (je_call (ok_found_agreeing G) hr ctx_px (ja_cons (je_var 0) (ja_cons (je_var 1) ja_nil)))) (fun _ _ _ _ _ => (jg_tup rfl (jgs_cons (jg_name (i := 3) nd) (jgs_cons (jg_name (i := 4) nd) jgs_nil)))) (fun _ _ _ _ _ => jts_nil) (fun _ _ _ _ _ => (je_var 4)))) ja_nil) (fr_tuple G) (by decide +kernel)))
    jss_no)
theorem sc_fewest_further : FnScope ["things", "told", "some", "questions", "size", "numbers", "rows", "weights", "k"] ["things", "told"] (defScope (top 77)) := ⟨rfl, rfl, rfl, by decide +kernel, rfl, by decide +kernel, by decide +kernel⟩
theorem ok_fewest_further (G : Fx fa fn qs K mg) : Cl P w K mg base 8 "fewest_further" 2 f_fewest_further := by
  obtain ⟨fd, F⟩ := G.def_ 34 (d := d34) rfl rfl rfl
  refine cl_of F (G.glo 34 rfl) (F.bindsN fun _ _ _ _ _ _ us hl => match us, hl with | [_, _], _ => rfl) (fn_body (N := ["things", "told", "some", "questions", "size", "numbers", "rows", "weights", "k"]) (ps := ["things", "told"]) F sc_fewest_further fun cdv A outer s H E hr => ?_)
  have nd := sc_fewest_further.nd
  exact (jss_cons (js_set 2 nd (je_call (ok_weights_left G) hr ctx_px (ja_cons (je_var 0) (ja_cons (je_var 1) ja_nil))))
    jss_no)
theorem sc_fewest_questions : FnScope ["things", "told", "some"] ["things", "told"] (defScope (top 80)) := ⟨rfl, rfl, rfl, by decide +kernel, rfl, by decide +kernel, by decide +kernel⟩
theorem ok_fewest_questions (G : Fx fa fn qs K mg) : Cl P w K mg base 8 "fewest_questions" 2 f_fewest_questions := by
  obtain ⟨fd, F⟩ := G.def_ 35 (d := d35) rfl rfl rfl
  refine cl_of F (G.glo 35 rfl) (F.bindsN fun _ _ _ _ _ _ us hl => match us, hl with | [_, _], _ => rfl) (fn_body (N := ["things", "told", "some"]) (ps := ["things", "told"]) F sc_fewest_questions fun cdv A outer s H E hr => ?_)
  have nd := sc_fewest_questions.nd
  exact (jss_cons (js_set 2 nd (je_call (ok_weights_left G) hr ctx_px (ja_cons (je_var 0) (ja_cons (je_var 1) ja_nil))))
    jss_no)
theorem sc_agrees : FnScope ["things", "told", "weights"] ["things", "told", "weights"] (defScope (top 38)) := ⟨rfl, rfl, rfl, by decide +kernel, rfl, by decide +kernel, by decide +kernel⟩
theorem ok_agrees (G : Fx fa fn qs K mg) : Cl P w K mg base 6 "agrees" 3 f_agrees := by
  obtain ⟨fd, F⟩ := G.def_ 36 (d := d36) rfl rfl rfl
  refine cl_of F (G.glo 36 rfl) (F.bindsN fun _ _ _ _ _ _ us hl => match us, hl with | [_, _, _], _ => rfl) (fn_body (N := ["things", "told", "weights"]) (ps := ["things", "told", "weights"]) F sc_agrees fun cdv A outer s H E hr => ?_)
  have nd := sc_agrees.nd
  exact (jss_cons (js_expr (je_call (ok_check_told G) hr ctx_px (ja_cons (je_var 0) (ja_cons (je_var 1) ja_nil))))
    (jss_cons (js_if (JW.jt (jw_or (jt_not (jt_val (je_call (ok_are_weights G) hr ctx_px (ja_cons (je_var 2) ja_nil)))) (jw_or1 (jt_cmp (jo_ne hr.units) (je_callB jc_len (ja_cons (je_var 2) ja_nil) (fr_len G) PySem.boot_len) (je_var 0))))) (jss_one (js_raise rfl ctx_tk (G.exc "InvalidWeights" (by decide)))) jss_nil)
    jss_no))
theorem sc_follows : FnScope ["things", "told", "comparison"] ["things", "told", "comparison"] (defScope (top 58)) := ⟨rfl, rfl, rfl, by decide +kernel, rfl, by decide +kernel, by decide +kernel⟩
theorem ok_follows (G : Fx fa fn qs K mg) : Cl P w K mg base 6 "follows" 3 f_follows := by
  obtain ⟨fd, F⟩ := G.def_ 37 (d := d37) rfl rfl rfl
  refine cl_of F (G.glo 37 rfl) (F.bindsN fun _ _ _ _ _ _ us hl => match us, hl with | [_, _, _], _ => rfl) (fn_body (N := ["things", "told", "comparison"]) (ps := ["things", "told", "comparison"]) F sc_follows fun cdv A outer s H E hr => ?_)
  have nd := sc_follows.nd
  exact (jss_cons (js_expr (je_call (ok_check_told G) hr ctx_px (ja_cons (je_var 0) (ja_cons (je_var 1) ja_nil))))
    (jss_cons (js_expr (je_call (ok_check_comparison G) hr ctx_px (ja_cons (je_var 0) (ja_cons (je_var 2) ja_nil))))
    jss_no))
theorem sc_grounds : FnScope ["things", "told", "comparison", "found"] ["things", "told", "comparison"] (defScope (top 59)) := ⟨rfl, rfl, rfl, by decide +kernel, rfl, by decide +kernel, by decide +kernel⟩
theorem ok_grounds (G : Fx fa fn qs K mg) : Cl P w K mg base 6 "grounds" 3 f_grounds := by
  obtain ⟨fd, F⟩ := G.def_ 38 (d := d38) rfl rfl rfl
  refine cl_of F (G.glo 38 rfl) (F.bindsN fun _ _ _ _ _ _ us hl => match us, hl with | [_, _, _], _ => rfl) (fn_body (N := ["things", "told", "comparison", "found"]) (ps := ["things", "told", "comparison"]) F sc_grounds fun cdv A outer s H E hr => ?_)
  have nd := sc_grounds.nd
  exact (jss_cons (js_expr (je_call (ok_check_told G) hr ctx_px (ja_cons (je_var 0) (ja_cons (je_var 1) ja_nil))))
    (jss_cons (js_expr (je_call (ok_check_comparison G) hr ctx_px (ja_cons (je_var 0) (ja_cons (je_var 2) ja_nil))))
    (jss_cons (js_if (jt_cmp (jo_eq hr.units) (je_ix jx_ix (je_var 2) je_int) je_str) (jss_one (js_raise rfl ctx_tk (G.exc "InvalidComparison" (by decide)))) jss_nil)
    jss_no)))
theorem sc_weight_of : FnScope ["weights", "lot"] ["weights", "lot"] (defScope (top 34)) := ⟨rfl, rfl, rfl, by decide +kernel, rfl, by decide +kernel, by decide +kernel⟩
theorem ok_weight_of (G : Fx fa fn qs K mg) : Cl P w K mg base 4 "weight_of" 2 f_weight_of := by
  obtain ⟨fd, F⟩ := G.def_ 39 (d := d39) rfl rfl rfl
  refine cl_of F (G.glo 39 rfl) (F.bindsN fun _ _ _ _ _ _ us hl => match us, hl with | [_, _], _ => rfl) (fn_body (N := ["weights", "lot"]) (ps := ["weights", "lot"]) F sc_weight_of fun cdv A outer s H E hr => ?_)
  have nd := sc_weight_of.nd
  exact (jss_cons (js_expr (je_call (ok_check_weights G) hr ctx_px (ja_cons (je_var 0) ja_nil)))
    (jss_cons (js_expr (je_call (ok_check_lot G) hr ctx_px (ja_cons (je_callB jc_len (ja_cons (je_var 0) ja_nil) (fr_len G) PySem.boot_len) (ja_cons (je_var 1) ja_nil))))
    jss_no))
theorem sc_possible : FnScope ["things", "told", "one", "other", "found", "sign", "comparison"] ["things", "told", "one", "other"] (defScope (top 55)) := ⟨rfl, rfl, rfl, by decide +kernel, rfl, by decide +kernel, by decide +kernel⟩
theorem ok_possible (G : Fx fa fn qs K mg) : Cl P w K mg base 6 "possible" 4 f_possible := by
  obtain ⟨fd, F⟩ := G.def_ 40 (d := d40) rfl rfl rfl
  refine cl_of F (G.glo 40 rfl) (F.bindsN fun _ _ _ _ _ _ us hl => match us, hl with | [_, _, _, _], _ => rfl) (fn_body (N := ["things", "told", "one", "other", "found", "sign", "comparison"]) (ps := ["things", "told", "one", "other"]) F sc_possible fun cdv A outer s H E hr => ?_)
  have nd := sc_possible.nd
  exact (jss_cons (js_expr (je_call (ok_check_told G) hr ctx_px (ja_cons (je_var 0) (ja_cons (je_var 1) ja_nil))))
    (jss_cons (js_expr (je_call (ok_check_lot G) hr ctx_px (ja_cons (je_var 0) (ja_cons (je_var 2) ja_nil))))
    (jss_cons (js_expr (je_call (ok_check_lot G) hr ctx_px (ja_cons (je_var 0) (ja_cons (je_var 3) ja_nil))))
    jss_no)))
theorem sc_is_plan : FnScope ["things", "told", "most", "value", "some"] ["things", "told", "most", "value"] (defScope (top 85)) := ⟨rfl, rfl, rfl, by decide +kernel, rfl, by decide +kernel, by decide +kernel⟩
theorem ok_is_plan (G : Fx fa fn qs K mg) : Cl P w K mg base 8 "is_plan" 4 f_is_plan := by
  obtain ⟨fd, F⟩ := G.def_ 41 (d := d41) rfl rfl rfl
  refine cl_of F (G.glo 41 rfl) (F.bindsN fun _ _ _ _ _ _ us hl => match us, hl with | [_, _, _, _], _ => rfl) (fn_body (N := ["things", "told", "most", "value", "some"]) (ps := ["things", "told", "most", "value"]) F sc_is_plan fun cdv A outer s H E hr => ?_)
  have nd := sc_is_plan.nd
  exact (jss_cons (js_expr (je_call (ok_check_told G) hr ctx_px (ja_cons (je_var 0) (ja_cons (je_var 1) ja_nil))))
    (jss_cons (js_if (jt_not (jt_val (je_call (ok_is_between G) hr ctx_px (ja_cons (je_var 2) (ja_cons je_int (ja_cons je_int ja_nil)))))) (jss_one (js_raise rfl ctx_tk (G.exc "InvalidNumber" (by decide)))) jss_nil)
    (jss_cons (js_set 4 nd (je_call (ok_weights_left G) hr ctx_px (ja_cons (je_var 0) (ja_cons (je_var 1) ja_nil))))
    jss_no)))
theorem sc_is_grounds : FnScope ["things", "told", "comparison", "value"] ["things", "told", "comparison", "value"] (defScope (top 60)) := ⟨rfl, rfl, rfl, by decide +kernel, rfl, by decide +kernel, by decide +kernel⟩
theorem ok_is_grounds (G : Fx fa fn qs K mg) : Cl P w K mg base 6 "is_grounds" 4 f_is_grounds := by
  obtain ⟨fd, F⟩ := G.def_ 42 (d := d42) rfl rfl rfl
  refine cl_of F (G.glo 42 rfl) (F.bindsN fun _ _ _ _ _ _ us hl => match us, hl with | [_, _, _, _], _ => rfl) (fn_body (N := ["things", "told", "comparison", "value"]) (ps := ["things", "told", "comparison", "value"]) F sc_is_grounds fun cdv A outer s H E hr => ?_)
  have nd := sc_is_grounds.nd
  exact (jss_cons (js_expr (je_call (ok_check_told G) hr ctx_px (ja_cons (je_var 0) (ja_cons (je_var 1) ja_nil))))
    (jss_cons (js_expr (je_call (ok_check_comparison G) hr ctx_px (ja_cons (je_var 0) (ja_cons (je_var 2) ja_nil))))
    (jss_cons (js_if (jt_cmp (jo_eq hr.units) (je_ix jx_ix (je_var 2) je_int) je_str) (jss_one (js_raise rfl ctx_tk (G.exc "InvalidComparison" (by decide)))) jss_nil)
    jss_no)))
theorem sc_orders : FnScope ["things", "order", "weights"] ["things"] (defScope (top 68)) := ⟨rfl, rfl, rfl, by decide +kernel, rfl, by decide +kernel, by decide +kernel⟩
theorem ok_orders (G : Fx fa fn qs K mg) : Cl P w K mg base 3 "orders" 1 f_orders := by
  obtain ⟨fd, F⟩ := G.def_ 43 (d := d43) rfl rfl rfl
  refine cl_of F (G.glo 43 rfl) (F.bindsN fun _ _ _ _ _ _ us hl => match us, hl with | [_], _ => rfl) (fn_body (N := ["things", "order", "weights"]) (ps := ["things"]) F sc_orders fun cdv A outer s H E hr => ?_)
  have nd := sc_orders.nd
  exact (jss_cons (js_expr (je_call (ok_check_things G) hr ctx_px (ja_cons (je_var 0) ja_nil)))
    (jss_cons (js_if (jt_cmp jo_gtI (je_var 0) je_int) (jss_one (js_raise rfl ctx_tk (G.exc "TooMany" (by decide)))) jss_nil)
    jss_no))
theorem sc_count_orders : FnScope ["things", "found", "weights", "order", "many", "k", "rank"] ["things"] (defScope (top 70)) := ⟨rfl, rfl, rfl, by decide +kernel, rfl, by decide +kernel, by decide +kernel⟩
theorem ok_count_orders (G : Fx fa fn qs K mg) : Cl P w K mg base 3 "count_orders" 1 f_count_orders := by
  obtain ⟨fd, F⟩ := G.def_ 44 (d := d44) rfl rfl rfl
  refine cl_of F (G.glo 44 rfl) (F.bindsN fun _ _ _ _ _ _ us hl => match us, hl with | [_], _ => rfl) (fn_body (N := ["things", "found", "weights", "order", "many", "k", "rank"]) (ps := ["things"]) F sc_count_orders fun cdv A outer s H E hr => ?_)
  have nd := sc_count_orders.nd
  exact (jss_cons (js_expr (je_call (ok_check_things G) hr ctx_px (ja_cons (je_var 0) ja_nil)))
    (jss_cons (js_if (jt_cmp jo_gtI (je_var 0) je_int) (jss_one (js_raise rfl ctx_tk (G.exc "TooMany" (by decide)))) jss_nil)
    jss_no))
theorem sc_order_of : FnScope ["weights"] ["weights"] (defScope (top 65)) := ⟨rfl, rfl, rfl, by decide +kernel, rfl, by decide +kernel, by decide +kernel⟩
theorem ok_order_of (G : Fx fa fn qs K mg) : Cl P w K mg base 3 "order_of" 1 f_order_of := by
  obtain ⟨fd, F⟩ := G.def_ 45 (d := d45) rfl rfl rfl
  refine cl_of F (G.glo 45 rfl) (F.bindsN fun _ _ _ _ _ _ us hl => match us, hl with | [_], _ => rfl) (fn_body (N := ["weights"]) (ps := ["weights"]) F sc_order_of fun cdv A outer s H E hr => ?_)
  have nd := sc_order_of.nd
  exact (jss_cons (js_expr (je_call (ok_check_weights G) hr ctx_px (ja_cons (je_var 0) ja_nil)))
    jss_no)
theorem sc_question_plan : FnScope ["things", "told", "some"] ["things", "told"] (defScope (top 82)) := ⟨rfl, rfl, rfl, by decide +kernel, rfl, by decide +kernel, by decide +kernel⟩
theorem ok_question_plan (G : Fx fa fn qs K mg) : Cl P w K mg base 8 "question_plan" 2 f_question_plan := by
  obtain ⟨fd, F⟩ := G.def_ 46 (d := d46) rfl rfl rfl
  refine cl_of F (G.glo 46 rfl) (F.bindsN fun _ _ _ _ _ _ us hl => match us, hl with | [_, _], _ => rfl) (fn_body (N := ["things", "told", "some"]) (ps := ["things", "told"]) F sc_question_plan fun cdv A outer s H E hr => ?_)
  have nd := sc_question_plan.nd
  exact (jss_cons (js_set 2 nd (je_call (ok_weights_left G) hr ctx_px (ja_cons (je_var 0) (ja_cons (je_var 1) ja_nil))))
    jss_no)
theorem sc_format_told : FnScope ["things", "told"] ["things", "told"] (defScope (top 89)) := ⟨rfl, rfl, rfl, by decide +kernel, rfl, by decide +kernel, by decide +kernel⟩
theorem ok_format_told (G : Fx fa fn qs K mg) : Cl P w K mg base 6 "format_told" 2 f_format_told := by
  obtain ⟨fd, F⟩ := G.def_ 47 (d := d47) rfl rfl rfl
  refine cl_of F (G.glo 47 rfl) (F.bindsN fun _ _ _ _ _ _ us hl => match us, hl with | [_, _], _ => rfl) (fn_body (N := ["things", "told"]) (ps := ["things", "told"]) F sc_format_told fun cdv A outer s H E hr => ?_)
  have nd := sc_format_told.nd
  exact (jss_cons (js_expr (je_call (ok_check_told G) hr ctx_px (ja_cons (je_var 0) (ja_cons (je_var 1) ja_nil))))
    jss_no)
theorem sc_parse_told : FnScope ["things", "text", "found", "word"] ["things", "text"] (defScope (top 92)) := ⟨rfl, rfl, rfl, by decide +kernel, rfl, by decide +kernel, by decide +kernel⟩
theorem ok_parse_told (G : Fx fa fn qs K mg) : Cl P w K mg base 3 "parse_told" 2 f_parse_told := by
  obtain ⟨fd, F⟩ := G.def_ 48 (d := d48) rfl rfl rfl
  refine cl_of F (G.glo 48 rfl) (F.bindsN fun _ _ _ _ _ _ us hl => match us, hl with | [_, _], _ => rfl) (fn_body (N := ["things", "text", "found", "word"]) (ps := ["things", "text"]) F sc_parse_told fun cdv A outer s H E hr => ?_)
  have nd := sc_parse_told.nd
  exact (jss_cons (js_expr (je_call (ok_check_things G) hr ctx_px (ja_cons (je_var 0) ja_nil)))
    jss_no)
theorem sc__law_call : FnScope ["how", "arguments", "one", "two", "three", "four", "some"] ["how", "arguments"] (defScope (top 107)) := ⟨rfl, rfl, rfl, by decide +kernel, rfl, by decide +kernel, by decide +kernel⟩
theorem ok__law_call (G : Fx fa fn qs K mg) : Cl P w K mg base 9 "_law_call" 2 f__law_call := by
  obtain ⟨fd, F⟩ := G.def_ 49 (d := d49) rfl rfl rfl
  refine cl_of F (G.glo 49 rfl) (F.bindsN fun _ _ _ _ _ _ us hl => match us, hl with | [_, _], _ => rfl) (fn_body (N := ["how", "arguments", "one", "two", "three", "four", "some"]) (ps := ["how", "arguments"]) F sc__law_call fun cdv A outer s H E hr => ?_)
  have nd := sc__law_call.nd
  exact (jss_cons (js_asg (vs := [2, 3, 4, 5]) (je_var 1) (jg_tup rfl (jgs_cons (jg_name (i := 2) nd) (jgs_cons (jg_name (i := 3) nd) (jgs_cons (jg_name (i := 4) nd) (jgs_cons (jg_name (i := 5) nd) jgs_nil))))))
    (jss_cons (js_if (jt_cmp (jo_lt hr.units0) (je_var 0) je_int) (jss_cons (js_set 6 nd (je_tup (ja_cons (je_gloC (ok_some_weights G)) (ja_cons (je_gloC (ok_least_weights G)) (ja_cons (je_gloC (ok_balance G)) (ja_cons (je_gloC (ok_clash G)) (ja_cons (je_gloC (ok_needless G)) (ja_cons (je_gloC (ok_agreeing G)) (ja_cons (je_gloC (ok_fewest_further G)) (ja_cons (je_gloC (ok_fewest_questions G)) ja_nil))))))))))
    (jss_one (js_ret (je_callV [("some_weights", f_some_weights), ("least_weights", f_least_weights), ("balance", f_balance), ("clash", f_clash), ("needless", f_needless), ("agreeing", f_agreeing), ("fewest_further", f_fewest_further), ("fewest_questions", f_fewest_questions), ("is_told", f_is_told), ("is_lot", f_is_lot), ("weight_of", f_weight_of), ("question_plan", f_question_plan), ("format_told", f_format_told), ("parse_told", f_parse_told)] (je_ix jx_ix (je_bin jo_add (je_var 6) (je_tup (ja_cons (je_gloC (ok_question_plan G)) (ja_cons (je_gloC (ok_format_told G)) (ja_cons (je_gloC (ok_parse_told G)) ja_nil))))) (je_var 0)) (clt_cons (ok_some_weights G) (clt_cons (ok_least_weights G) (clt_cons (ok_balance G) (clt_cons (ok_clash G) (clt_cons (ok_needless G) (clt_cons (ok_agreeing G) (clt_cons (ok_fewest_further G) (clt_cons (ok_fewest_questions G) (clt_cons (ok_is_told G) (clt_cons (ok_is_lot G) (clt_cons (ok_weight_of G) (clt_cons (ok_question_plan G) (clt_cons (ok_format_told G) (clt_cons (ok_parse_told G) clt_nil)))))))))))))) hr ctx_px (ja_cons (je_var 2) (ja_cons (je_var 3) ja_nil)))))) jss_nil)
    (jss_cons (js_if (jt_cmp (jo_lt hr.units0) (je_var 0) je_int) (jss_one (js_ret (je_callV [("agrees", f_agrees), ("is_balance", f_is_balance), ("follows", f_follows), ("grounds", f_grounds)] (je_ix jx_ix (je_tup (ja_cons (je_gloC (ok_agrees G)) (ja_cons (je_gloC (ok_is_balance G)) (ja_cons (je_gloC (ok_follows G)) (ja_cons (je_gloC (ok_grounds G)) ja_nil))))) (je_bin jo_sub (je_var 0) je_int)) (clt_cons (ok_agrees G) (clt_cons (ok_is_balance G) (clt_cons (ok_follows G) (clt_cons (ok_grounds G) clt_nil)))) hr ctx_px (ja_cons (je_var 2) (ja_cons (je_var 3) (ja_cons (je_var 4) ja_nil)))))) jss_nil)
    (jss_cons (js_if (jt_cmp (jo_lt hr.units0) (je_var 0) je_int) (jss_one (js_ret (je_callV [("some_weights", f_some_weights), ("least_weights", f_least_weights), ("balance", f_balance), ("clash", f_clash), ("needless", f_needless), ("agreeing", f_agreeing), ("fewest_further", f_fewest_further), ("fewest_questions", f_fewest_questions), ("is_told", f_is_told), ("is_lot", f_is_lot), ("weight_of", f_weight_of), ("question_plan", f_question_plan), ("format_told", f_format_told), ("parse_told", f_parse_told)] (je_ix jx_ix (je_tup (ja_cons (je_gloC (ok_is_told G)) (ja_cons (je_gloC (ok_is_lot G)) (ja_cons (je_gloC (ok_weight_of G)) ja_nil)))) (je_bin jo_sub (je_var 0) je_int)) (clt_cons (ok_some_weights G) (clt_cons (ok_least_weights G) (clt_cons (ok_balance G) (clt_cons (ok_clash G) (clt_cons (ok_needless G) (clt_cons (ok_agreeing G) (clt_cons (ok_fewest_further G) (clt_cons (ok_fewest_questions G) (clt_cons (ok_is_told G) (clt_cons (ok_is_lot G) (clt_cons (ok_weight_of G) (clt_cons (ok_question_plan G) (clt_cons (ok_format_told G) (clt_cons (ok_parse_told G) clt_nil)))))))))))))) hr ctx_px (ja_cons (je_var 2) (ja_cons (je_var 3) ja_nil))))) jss_nil)
    (jss_cons (js_if (jt_cmp (jo_lt hr.units0) (je_var 0) je_int) (jss_one (js_ret (je_callV [("possible", f_possible), ("is_plan", f_is_plan), ("is_grounds", f_is_grounds)] (je_ix jx_ix (je_tup (ja_cons (je_gloC (ok_possible G)) (ja_cons (je_gloC (ok_is_plan G)) (ja_cons (je_gloC (ok_is_grounds G)) ja_nil)))) (je_bin jo_sub (je_var 0) je_int)) (clt_cons (ok_possible G) (clt_cons (ok_is_plan G) (clt_cons (ok_is_grounds G) clt_nil))) hr ctx_px (ja_cons (je_var 2) (ja_cons (je_var 3) (ja_cons (je_var 4) (ja_cons (je_var 5) ja_nil))))))) jss_nil)
    (jss_cons (js_if (jt_cmp (jo_eq hr.units) (je_var 0) je_int) (jss_one (js_ret (je_call (ok_holds G) hr ctx_px (ja_cons (je_var 2) (ja_cons (je_var 3) ja_nil))))) jss_nil)
    (jss_cons (js_if (jt_cmp (jo_lt hr.units0) (je_var 0) je_int) (jss_one (js_ret (je_callV [("orders", f_orders), ("count_orders", f_count_orders), ("order_of", f_order_of)] (je_ix jx_ix (je_tup (ja_cons (je_gloC (ok_orders G)) (ja_cons (je_gloC (ok_count_orders G)) (ja_cons (je_gloC (ok_order_of G)) ja_nil)))) (je_bin jo_sub (je_var 0) je_int)) (clt_cons (ok_orders G) (clt_cons (ok_count_orders G) (clt_cons (ok_order_of G) clt_nil))) hr ctx_px (ja_cons (je_var 2) ja_nil)))) jss_nil)
    (jss_one (js_ret (je_call (ok_naive_possible G) hr ctx_px (ja_cons (je_var 2) (ja_cons (je_var 3) (ja_cons (je_var 4) (ja_cons (je_var 4) (ja_cons (je_var 5) ja_nil)))))))))))))))
theorem sc__law_name : FnScope ["caught", "found"] ["caught"] (defScope (top 100)) := ⟨rfl, rfl, rfl, by decide +kernel, rfl, by decide +kernel, by decide +kernel⟩
theorem ok__law_name (G : Fx fa fn qs K mg) : Cl P w K mg base 1 "_law_name" 1 f__law_name := by
  obtain ⟨fd, F⟩ := G.def_ 50 (d := d50) rfl rfl rfl
  refine cl_of F (G.glo 50 rfl) (F.bindsN fun _ _ _ _ _ _ us hl => match us, hl with | [_], _ => rfl) (fn_body (N := ["caught", "found"]) (ps := ["caught"]) F sc__law_name fun cdv A outer s H E hr => ?_)
  have nd := sc__law_name.nd
  exact (jss_cons (js_if (jt_not (jt_val (G.isV rfl (je_var 0) (fr_isinstance G) (fr_ValueError G)))) (jss_one (js_ret (je_neg je_int))) jss_nil)
    (jss_cons (js_set 1 nd (je_fz (jf_lst (ja_cons (G.isE rfl (y := "InvalidThings") (by decide) (je_var 0) (fr_isinstance G)) (ja_cons (G.isE rfl (y := "InvalidTold") (by decide) (je_var 0) (fr_isinstance G)) ja_nil)))))
    (jss_cons (js_set 1 nd (je_bin jo_add (je_var 1) (je_fz (jf_lst (ja_cons (G.isE rfl (y := "InvalidWeights") (by decide) (je_var 0) (fr_isinstance G)) (ja_cons (G.isE rfl (y := "InvalidLot") (by decide) (je_var 0) (fr_isinstance G)) ja_nil))))))
    (jss_cons (js_set 1 nd (je_bin jo_add (je_var 1) (je_fz (jf_lst (ja_cons (G.isE rfl (y := "InvalidComparison") (by decide) (je_var 0) (fr_isinstance G)) (ja_cons (G.isE rfl (y := "InvalidNumber") (by decide) (je_var 0) (fr_isinstance G)) ja_nil))))))
    (jss_cons (js_set 1 nd (je_bin jo_add (je_var 1) (je_fz (jf_lst (ja_cons (G.isE rfl (y := "InvalidText") (by decide) (je_var 0) (fr_isinstance G)) (ja_cons (G.isE rfl (y := "NotSure") (by decide) (je_var 0) (fr_isinstance G)) ja_nil))))))
    (jss_cons (js_set 1 nd (je_bin jo_add (je_var 1) (je_fz (jf_lst (ja_cons (G.isE rfl (y := "NoneAgree") (by decide) (je_var 0) (fr_isinstance G)) (ja_cons (G.isE rfl (y := "TooMany") (by decide) (je_var 0) (fr_isinstance G)) ja_nil))))))
    (jss_cons (js_set 1 nd (je_bin jo_add (je_var 1) (je_fz (jf_lst (ja_cons (G.isE rfl (y := "NothingToUndo") (by decide) (je_var 0) (fr_isinstance G)) ja_nil)))))
    (jss_one (js_ret (je_ifExp (jt_cmp (jo_eq hr.units) (je_count (je_var 1) (ja_cons je_bl ja_nil)) je_int) (je_index (u65 hr) (je_var 1) (ja_cons je_bl ja_nil)) (je_neg je_int)))))))))))
theorem sc__law_outcome : FnScope ["how", "arguments", "caught", "result", "error"] ["how", "arguments"] (defScope (top 99)) := ⟨rfl, rfl, rfl, by decide +kernel, rfl, by decide +kernel, by decide +kernel⟩
theorem ok__law_outcome (G : Fx fa fn qs K mg) : Cl P w K mg base 10 "_law_outcome" 2 f__law_outcome := by
  obtain ⟨fd, F⟩ := G.def_ 51 (d := d51) rfl rfl rfl
  refine cl_of F (G.glo 52 rfl) (F.bindsN fun _ _ _ _ _ _ us hl => match us, hl with | [_, _], _ => rfl) (fn_body (N := ["how", "arguments", "caught", "result", "error"]) (ps := ["how", "arguments"]) F sc__law_outcome fun cdv A outer s H E hr => ?_)
  have nd := sc__law_outcome.nd
  exact (jss_cons (js_set 2 nd je_non)
    (jss_cons (js_set 3 nd je_non)
    (jss_cons (js_tryCall (i := 4) (j := 2) (r := 3) rfl rfl rfl nd (G.names rfl 51 rfl) (G.exm rfl) (ok__law_call G) hr (fun _ _ => (ja_cons (je_var 0) (ja_cons (je_var 1) ja_nil))))
    (jss_cons (js_if (jt_cmp jo_is (je_var 2) je_non) (jss_one (js_ret (je_tup (ja_cons je_str (ja_cons (je_var 3) ja_nil))))) jss_nil)
    (jss_one (js_ret (je_tup (ja_cons je_str (ja_cons (je_call (ok__law_name G) hr ctx_px (ja_cons (je_var 2) ja_nil)) ja_nil)))))))))
theorem sc__law_raises : FnScope ["name", "some"] ["name"] (defScope (top 101)) := ⟨rfl, rfl, rfl, by decide +kernel, rfl, by decide +kernel, by decide +kernel⟩
theorem ok__law_raises (G : Fx fa fn qs K mg) : Cl P w K mg base 1 "_law_raises" 1 f__law_raises := by
  obtain ⟨fd, F⟩ := G.def_ 52 (d := d52) rfl rfl rfl
  refine cl_of F (G.glo 53 rfl) (F.bindsN fun _ _ _ _ _ _ us hl => match us, hl with | [_], _ => rfl) (fn_body (N := ["name", "some"]) (ps := ["name"]) F sc__law_raises fun cdv A outer s H E hr => ?_)
  have nd := sc__law_raises.nd
  exact (jss_cons (js_set 1 nd (je_fz (jf_lst (ja_cons je_str (ja_cons je_str (ja_cons je_str (ja_cons je_str (ja_cons je_str (ja_cons je_str ja_nil)))))))))
    (jss_cons (js_set 1 nd (je_bin jo_add (je_var 1) (je_fz (jf_lst (ja_cons je_str (ja_cons je_str (ja_cons je_str (ja_cons je_str (ja_cons je_str ja_nil)))))))))
    (jss_one (js_ret (je_tup (ja_cons je_str (ja_cons (je_index (u65 hr) (je_var 1) (ja_cons (je_var 0) ja_nil)) ja_nil)))))))
theorem sc_law : FnScope ["script", "town", "told", "calls", "bad", "wrong", "k", "one"] ["script"] (defScope (top 110)) := ⟨rfl, rfl, rfl, by decide +kernel, rfl, by decide +kernel, by decide +kernel⟩
theorem law_fn (G : Fx fa fn qs K mg) {fd : FuncData} (F : FunD K "law" "law" (defArgs (top 110)) (defBody (top 110)) (defScope (top 110)) [] [] (He.ga K "law") fd) : FnOk P w K mg base (L2.CX P w) 11 (He.ga K "law") fd ["script"] (spF K mg 1 f_law) := by
  refine fn_body (N := ["script", "town", "told", "calls", "bad", "wrong", "k", "one"]) (ps := ["script"]) F sc_law fun cdv A outer s H E hr => ?_
  have nd := sc_law.nd
  exact (jss_cons (js_set 1 nd (je_call (ok__law_town G) hr ctx_px (ja_cons (je_var 0) ja_nil)))
    (jss_cons (js_par (i := 2) (j := 3) rfl nd (ja_cons (je_call (ok__law_told G) hr ctx_px (ja_cons (je_var 0) (ja_cons (je_var 1) (ja_cons je_int (ja_cons je_int ja_nil))))) (ja_cons (je_fz (jf_lst ja_nil)) ja_nil)))
    (jss_cons (js_for (vs := [4]) ctx_po rfl (ji_seq (je_call0 (ok__law_no_told G) hr ctx_px)) (jg_name (i := 4) nd) (jss_cons (js_set 3 nd (je_bin jo_add (je_var 3) (je_fz (jf_lc (own := [("k", 6)]) rfl nd (blkOk_by (by kernel_rfl)) (ji_seq (je_bin jo_add (je_fz (jf_listRg rfl je_int (fr_list G) (fr_range G))) (je_fz (jf_lst (ja_cons je_int (ja_cons je_int (ja_cons je_int (ja_cons je_int (ja_cons je_int (ja_cons je_int (ja_cons je_int (ja_cons je_int ja_nil)))))))))))) (fun _ _ _ _ _ => (jg_name (i := 6) nd)) (fun _ _ _ _ _ => jts_nil) (fun _ _ _ _ _ => (je_tup (ja_cons (je_var 6) (ja_cons (je_tup (ja_cons je_int (ja_cons (je_var 4) (ja_cons je_int (ja_cons je_int ja_nil))))) (ja_cons je_str ja_nil)))))))))
    (jss_one (js_if (jt_val (je_call (ok_is_told G) hr ctx_px (ja_cons je_int (ja_cons (je_var 4) ja_nil)))) (jss_one (js_ret je_bl)) jss_nil))))
    (jss_cons (js_set 3 nd (je_bin jo_add (je_var 3) (je_call (ok__law_wrong G) hr ctx_px (ja_cons (je_var 2) ja_nil))))
    (jss_cons (js_setLc (i := 5) (own := [("one", 7)]) rfl nd (blkOk_by (by kernel_rfl)) (ji_seq (je_var 3)) (fun _ _ _ _ _ => (jg_name (i := 7) nd)) (fun _ _ _ _ _ => (jts_one (jt_cmp (jo_ne hr.units) (je_call (ok__law_outcome G) hr passL (ja_cons (je_ix jx_ix (je_var 7) je_int) (ja_cons (je_ix jx_ix (je_var 7) je_int) ja_nil))) (je_call (ok__law_raises G) hr passL (ja_cons (je_ix jx_ix (je_var 7) je_int) ja_nil))))) (fun _ _ _ _ _ => (je_var 7)))
    (jss_cons (js_if (JW.jt (jw_or (jt_cmp (jo_ne hr.units) (je_var 5) (je_fz (jf_lst ja_nil))) (jw_or (jt_cmp (jo_lt hr.units0) (je_callB jc_len (ja_cons (je_var 3) ja_nil) (fr_len G) PySem.boot_len) je_int) (jw_or (jt_val (je_call (ok_is_balance G) hr ctx_px (ja_cons je_int (ja_cons (je_var 2) (ja_cons je_non ja_nil))))) (jw_or (jt_val (je_call (ok_is_lot G) hr ctx_px (ja_cons je_int (ja_cons (je_tup (ja_cons je_int ja_nil)) ja_nil)))) (jw_or1 (jt_val (je_call (ok_is_lot G) hr ctx_px (ja_cons je_int (ja_cons (je_fz (jf_lst (ja_cons je_int ja_nil))) ja_nil)))))))))) (jss_one (js_ret je_bl)) jss_nil)
    (jss_one (js_ret (je_and (je_cmp jo_is (je_call (ok_is_told G) hr ctx_px (ja_cons je_int (ja_cons (je_var 2) ja_nil))) je_bl) (je_and (je_cmp jo_is (je_call (ok_is_lot G) hr ctx_px (ja_cons je_int (ja_cons (je_tup (ja_cons je_int (ja_cons je_int ja_nil))) ja_nil))) je_bl) (je_one (je_cmp jo_is (je_call (ok_is_told G) hr ctx_px (ja_cons je_int (ja_cons (je_bin jo_mul (je_tup (ja_cons (je_tup (ja_cons (je_tup (ja_cons je_int ja_nil)) (ja_cons je_str (ja_cons (je_tup ja_nil) ja_nil)))) ja_nil)) je_int) ja_nil))) je_bl))))))))))))
end
end Gk01
end
section
set_option Elab.async false
set_option linter.all false
set_option maxRecDepth 10000
namespace Lq
open PySem PySem.Spec PyProof.Rows L2
def townF : Fn := runF 1
    (sRet (eOw (fAdd (eFz (fDisp (aCons (eC (.int 0)) aNil))) (eFz (fList (eVar 0))))))
def drawF : Fn := runF 6
    (sSeq (sAsg (eBin oAdd (eBin oIx (eVar 1) (eC (.int 0))) (eC (.int 1))) (gSubL (eVar 1) (eC (.int 0))))
    (sSeq (sIf (tE (eBin oEq (eVar 0) (eFz (fDisp aNil)))) (sRet (eBin oMod (eBin oDiv (eBin oMul (eBin oMul (eBin oIx (eVar 1) (eC (.int 0))) (eBin oIx (eVar 1) (eC (.int 0)))) (eC (.int 7))) (eC (.int 3))) (eVar 2))) sNil)
    (sSeq (sSet 3 (eBin oMod (eBin oIx (eVar 1) (eC (.int 0))) (eCB oLen (aCons (eVar 0) aNil))))
    (sSeq (sSet 4 (eBin oIx (eVar 1) (eBin oAdd (eC (.int 1)) (eVar 3))))
    (sSeq (sIf (tAndF (tE (eBin oGeI (eBin oIx (eVar 0) (eVar 3)) (eBin oPow (eC (.int 10)) (eC (.int 18))))) (tE (eBin oGtI (eVar 4) (eC (.int 0))))) (sSeq (sAsg (eBin oDiv (eVar 4) (eVar 2)) (gSubL (eVar 1) (eBin oAdd (eC (.int 1)) (eVar 3))))
    (sRet (eBin oMod (eVar 4) (eVar 2)))) sNil)
    (sSeq (sSet 5 (eBin oMod (eBin oAdd (eBin oIx (eVar 0) (eVar 3)) (eBin oMul (eC (.int 104729)) (eBin oIx (eVar 1) (eC (.int 0))))) (eC (.int 4294967291))))
    (sSeq (sSet 5 (eBin oMod (eBin oPow (eVar 5) (eC (.int 5))) (eC (.int 4294967279))))
    (sRet (eBin oMod (eBin oDiv (eBin oMod (eBin oAdd (eBin oMul (eBin oDiv (eVar 5) (eC (.int 64))) (eC (.int 69621))) (eVar 5)) (eC (.int 4294967231))) (eC (.int 8))) (eVar 2))))))))))
theorem b_ok {α β : Type} {a : α} {s : Store} {k : α → Store → R β} : (R.ok a s).bind k = k a s := rfl
def Town (ns : List Int) (k : Nat) (c : List PV) : Prop := ∃ (n : Int) (ls : List Int), c = (n :: ls).map PV.int ∧ ls.length = ns.length ∧ 0 ≤ n ∧ n ≤ (k : Int)
theorem dOks_ints (m : Nat) : ∀ ns : List Int, dOks m (ns.map PV.int) = true
  | [] => rfl
  | n :: r => by rw [List.map_cons, dOks, dOks_ints m r]; rfl
theorem noScrs_ints : ∀ ns : List Int, noScrs (ns.map PV.int) = true
  | [] => rfl
  | n :: r => by rw [List.map_cons, noScrs, noScrs_ints r]; rfl
theorem town_ok (ns : List Int) (hl : ns.length ≤ 63) : townF [.scr ns] [] = .ok (.own 0) [.lst ((0 :: ns).map PV.int)] := by
  have h : (1 + ns.length ≤ sizeLine) := by
    have : sizeLine = 16777216 := by decide
    omega
  simp [townF, runF, ret, env0, sRet, eOw, fAdd, eFz, fDisp, aCons, aNil, eC, fList, eVar, R.bind, asS, asL, asM, show (1 : Nat) ≤ sizeLine by decide]
  rw [if_pos (by omega)]
  rfl
theorem atI_nat {α : Type} {xs : List α} {i : Nat} {x : α} (h : xs[i]? = some x) : atI xs (i : Int) = some x := by
  have hi := (List.getElem?_eq_some_iff.mp h).1
  unfold atI ixN
  rw [if_pos (Int.natCast_nonneg _), if_pos (by omega)]
  simpa using h
theorem draw_ok {ns : List Int} {k t : Nat} {c : List PV} {st : Store} {lim : Int} (ht : st[t]? = some (.lst c)) (T : Town ns k c) (hk : k < 1000000) (hns : ns.length ≤ 63) (h0 : 0 < lim) (h1 : lim < 1000000) :
    ∃ d c', drawF [.scr ns, .own t, .int lim] st = .ok (.int d) (st.set t (.lst c')) ∧ 0 ≤ d ∧ d < lim ∧ Town ns (k + 1) c' := by
  obtain ⟨n, ls, rfl, hls, n0, nk⟩ := T
  have htl : t < st.length := (List.getElem?_eq_some_iff.mp ht).1
  have slog : ∀ x : Int, 0 ≤ x → x < 2 ^ 64 → x.natAbs.log2 < 9000 := fun x a b => by
    by_cases z : x.natAbs = 0
    · rw [z]; decide
    · have : x.natAbs < 2 ^ 64 := by omega
      exact Nat.lt_trans ((Nat.log2_lt z).mpr this) (by decide)
  have e0 : (env0 6 [.scr ns, .own t, .int lim] : Ev) = [some (.scr ns), some (.own t), some (.int lim), none, none, none] := rfl
  have c1 : (st.set t (.lst (((n + 1) :: ls).map PV.int)))[t]? = some (.lst (((n + 1) :: ls).map PV.int)) := by rw [List.getElem?_set_self htl]
  have ad : ∀ (a b : Int) (s : Store), oAdd (.int a) (.int b) s = some (.int (a + b)) := fun _ _ _ => rfl
  have ix0 : ∀ (a : Int) (s : Store), s[t]? = some (.lst ((a :: ls).map PV.int)) → oIx (.own t) (.int 0) s = some (.int a) := fun a s h => by
    simp [oIx, asS, asL, h, atI, ixN]
  unfold drawF runF
  rw [e0]
  have stepA : ∀ (rest : XS), sSeq (sAsg (eBin oAdd (eBin oIx (eVar 1) (eC (.int 0))) (eC (.int 1))) (gSubL (eVar 1) (eC (.int 0)))) rest [some (.scr ns), some (.own t), some (.int lim), none, none, none] st
      = rest [some (.scr ns), some (.own t), some (.int lim), none, none, none] (st.set t (.lst (((n + 1) :: ls).map PV.int))) := fun rest => by
    simp only [sSeq, sAsg, eBin, eVar, eC, b_ok, List.getElem?_cons_succ, List.getElem?_cons_zero, ix0 n st ht, ad, gSubL, ht]
    have : ixN ((n :: ls).map PV.int).length 0 = some 0 := by simp [ixN]
    rw [this]
    rfl
  rw [stepA]
  generalize hst1 : st.set t (.lst (((n + 1) :: ls).map PV.int)) = st1 at c1
  have stt : ∀ x, st1.set t x = st.set t x := fun x => by rw [← hst1, List.set_set]
  have ht1 : t < st1.length := by rw [← hst1]; simpa using htl
  have town1 : Town ns (k + 1) (((n + 1) :: ls).map PV.int) := ⟨n + 1, ls, rfl, hls, by omega, by omega⟩
  have eqS : oEq (.scr ns) (.lst []) st1 = some (.bl (peqs (ns.map PV.int) [])) := by
    have a1 : dChk (.lst (ns.map PV.int)) = true := by unfold dChk; rw [dOk, noScr, dOks_ints, noScrs_ints]; rfl
    have a2 : dChk (.lst []) = true := rfl
    unfold oEq
    simp only [rsv, a1, a2, Bool.and_self, if_true]
    rw [peq]
  have n63 : sizeLine = 16777216 := by decide
  have sm : ∀ x : Int, x = x % lim → 0 ≤ x ∧ x < lim := fun x hx => by
    have := Int.emod_nonneg x (show lim ≠ 0 by omega)
    have := Int.emod_lt_of_pos x h0
    omega
  have md : ∀ (x : Int), 0 ≤ x % lim ∧ x % lim < lim := fun x => ⟨Int.emod_nonneg x (by omega), Int.emod_lt_of_pos x h0⟩
  have mod_ : ∀ (x y : Int) (s : Store), 0 < y → oMod (.int x) (.int y) s = some (.int (x % y)) := fun x y s h => by simp [oMod, oI, h]
  have mul_ : ∀ (x y : Int) (s : Store), -(2 ^ 64) < y → y < 2 ^ 64 → oMul (.int x) (.int y) s = some (.int (x * y)) := fun x y s a b => by
    have : mulOk x y = true := by
      unfold mulOk
      simp only [Bool.or_eq_true, Bool.and_eq_true, decide_eq_true_eq]
      exact .inr (.inl ⟨a, b⟩)
    simp [oMul, oOr, oMulI, oI, this]
  have div_ : ∀ (x y : Int) (s : Store), 0 < y → y < 2 ^ 64 → oDiv (.int x) (.int y) s = some (.int (x / y)) := fun x y s a b => by
    simp [oDiv, oI, a, slog y (by omega) b]
  by_cases hn : ns = []
  · subst hn
    have r0 : peqs (([] : List Int).map PV.int) [] = true := rfl
    refine ⟨(n + 1) * (n + 1) * 7 / 3 % lim, ((n + 1) :: ls).map PV.int, ?_, (md _).1, (md _).2, town1⟩
    simp only [sSeq, sIf, tE, toB, eBin, eVar, eC, eFz, fDisp, aNil, b_ok, List.getElem?_cons_succ, List.getElem?_cons_zero, List.length_nil, Nat.zero_le, if_true, eqS, r0, sRet, ix0 (n + 1) st1 c1,
      mul_ (n + 1) (n + 1) st1 (by omega) (by omega), mul_ ((n + 1) * (n + 1)) 7 st1 (by omega) (by omega), div_ _ 3 st1 (by omega) (by omega), mod_ _ lim st1 h0, ret]
    rw [← hst1]
  · have r0 : peqs (ns.map PV.int) [] = false := by
      cases ns with
      | nil => exact absurd rfl hn
      | cons _ _ => simp [peqs]
    have lp : 0 < ns.length := List.length_pos_iff.mpr hn
    obtain ⟨j, hj⟩ : ∃ j : Nat, (n + 1) % (ns.length : Int) = (j : Int) := ⟨((n + 1) % (ns.length : Int)).toNat, by
      have := Int.emod_nonneg (n + 1) (show (ns.length : Int) ≠ 0 by omega)
      omega⟩
    have hjl : j < ns.length := by
      have := Int.emod_lt_of_pos (n + 1) (show (0 : Int) < (ns.length : Int) by omega)
      omega
    obtain ⟨x, hx⟩ : ∃ x, ns[j]? = some x := ⟨_, List.getElem?_eq_getElem hjl⟩
    obtain ⟨l, hlj⟩ : ∃ l, ls[j]? = some l := ⟨_, List.getElem?_eq_getElem (by omega)⟩
    have ixS : oIx (.scr ns) (.int (j : Int)) st1 = some (.int x) := by
      simp only [oIx, asS, asL]
      exact atI_nat (by simp [hx])
    have ixT : oIx (.own t) (.int (1 + (j : Int))) st1 = some (.int l) := by
      simp only [oIx, asS, asL, c1]
      have : (1 + (j : Int)) = ((j + 1 : Nat) : Int) := by omega
      rw [this]
      exact atI_nat (by simp [hlj])
    have lenS : oLen [.scr ns] st1 = some (.int (ns.length : Int)) := by
      simp [oLen, asS, asL]
    have pw : ∀ (x y : Int) (s : Store), 0 ≤ y → y ≤ 1000000 → x.natAbs < 2 ^ 64 → oPow (.int x) (.int y) s = some (.int (x ^ y.toNat)) := fun x y s a b c => by simp only [oPow, oI, a, b, c, and_self, if_true]
    have ge : ∀ (a b : Int) (s : Store), oGeI (.int a) (.int b) s = some (.bl (decide (b ≤ a))) := fun _ _ _ => rfl
    have gt : ∀ (a b : Int) (s : Store), oGtI (.int a) (.int b) s = some (.bl (decide (b < a))) := fun _ _ _ => rfl
    have ixw : ixN (((n + 1) :: ls).map PV.int).length (1 + (j : Int)) = some (j + 1) := by
      unfold ixN
      have : ((((n + 1) :: ls).map PV.int).length : Int) = (ls.length : Int) + 1 := by simp
      rw [if_pos (by omega), if_pos (by omega)]
      congr 1
      omega
    have stepB : ∀ (b : XS) (rest : XS), sSeq (sIf (tE (eBin oEq (eVar 0) (eFz (fDisp aNil)))) b sNil) rest [some (.scr ns), some (.own t), some (.int lim), none, none, none] st1
        = rest [some (.scr ns), some (.own t), some (.int lim), none, none, none] st1 := fun b rest => by
      simp only [sSeq, sIf, tE, toB, eBin, eVar, eC, eFz, fDisp, aNil, b_ok, List.getElem?_cons_succ, List.getElem?_cons_zero, List.length_nil, Nat.zero_le, if_true, eqS, r0, sNil]
      rfl
    rw [stepB]
    have stepC : ∀ (rest : XS), sSeq (sSet 3 (eBin oMod (eBin oIx (eVar 1) (eC (.int 0))) (eCB oLen (aCons (eVar 0) aNil)))) rest [some (.scr ns), some (.own t), some (.int lim), none, none, none] st1
        = rest [some (.scr ns), some (.own t), some (.int lim), some (.int (j : Int)), none, none] st1 := fun rest => by
      simp only [sSeq, sSet, eBin, eVar, eC, eCB, aCons, aNil, b_ok, List.getElem?_cons_succ, List.getElem?_cons_zero, ix0 (n + 1) st1 c1, lenS, mod_ (n + 1) (ns.length : Int) st1 (by omega), hj]
      rfl
    rw [stepC]
    have stepD : ∀ (rest : XS), sSeq (sSet 4 (eBin oIx (eVar 1) (eBin oAdd (eC (.int 1)) (eVar 3)))) rest [some (.scr ns), some (.own t), some (.int lim), some (.int (j : Int)), none, none] st1
        = rest [some (.scr ns), some (.own t), some (.int lim), some (.int (j : Int)), some (.int l), none] st1 := fun rest => by
      simp only [sSeq, sSet, eBin, eVar, eC, b_ok, List.getElem?_cons_succ, List.getElem?_cons_zero, ad, ixT]
      rfl
    rw [stepD]
    generalize hE : ([some (.scr ns), some (.own t), some (.int lim), some (.int (j : Int)), some (.int l), none] : Ev) = E1
    have v0 : E1[0]? = some (some (.scr ns)) := by rw [← hE]; rfl
    have v1 : E1[1]? = some (some (.own t)) := by rw [← hE]; rfl
    have v2 : E1[2]? = some (some (.int lim)) := by rw [← hE]; rfl
    have v3 : E1[3]? = some (some (.int (j : Int))) := by rw [← hE]; rfl
    have v4 : E1[4]? = some (some (.int l)) := by rw [← hE]; rfl
    have p18 : oPow (.int 10) (.int 18) st1 = some (.int (10 ^ 18)) := pw 10 18 st1 (by decide) (by decide) (by decide)
    by_cases g : (10 : Int) ^ 18 ≤ x ∧ 0 < l
    · refine ⟨l % lim, (((n + 1) :: ls).map PV.int).set (j + 1) (.int (l / lim)), ?_, (md _).1, (md _).2, ?_⟩
      · have cond : tAndF (tE (eBin oGeI (eBin oIx (eVar 0) (eVar 3)) (eBin oPow (eC (.int 10)) (eC (.int 18))))) (tE (eBin oGtI (eVar 4) (eC (.int 0)))) E1 st1 = .ok true st1 := by
          simp only [tAndF, tE, toB, eBin, eVar, eC, v0, v3, v4, b_ok, ixS, p18, ge, gt, g.1, g.2, decide_true, if_true]
        have st2 : sAsg (eBin oDiv (eVar 4) (eVar 2)) (gSubL (eVar 1) (eBin oAdd (eC (.int 1)) (eVar 3))) E1 st1 = .ok (.nx E1) (st1.set t (.lst ((((n + 1) :: ls).map PV.int).set (j + 1) (.int (l / lim))))) := by
          simp only [sAsg, eBin, eVar, eC, gSubL, v1, v2, v3, v4, b_ok, ad, div_ l lim st1 h0 (by omega), c1, ixw]
        simp only [sSeq, sIf, cond, b_ok, if_true, st2, sRet, eBin, eVar, v4, v2, mod_ l lim _ h0, ret, stt]
      · refine ⟨n + 1, ls.set j (l / lim), ?_, by simpa using hls, by omega, by omega⟩
        simp [List.map_set]
    · have cond : tAndF (tE (eBin oGeI (eBin oIx (eVar 0) (eVar 3)) (eBin oPow (eC (.int 10)) (eC (.int 18))))) (tE (eBin oGtI (eVar 4) (eC (.int 0)))) E1 st1 = .ok false st1 := by
        simp only [tAndF, tE, toB, eBin, eVar, eC, v0, v3, v4, b_ok, ixS, p18, ge, gt]
        by_cases g1 : (10 : Int) ^ 18 ≤ x
        · have g2 : ¬ (0 < l) := fun z => g ⟨g1, z⟩
          simp only [g1, g2, decide_true, decide_false, if_true]
        · simp only [g1, decide_false]
          rfl
      generalize hm : (x + 104729 * (n + 1)) % 4294967291 = m
      have hm0 : 0 ≤ m := by rw [← hm]; exact Int.emod_nonneg _ (by decide)
      have hm1 : m < 4294967291 := by rw [← hm]; exact Int.emod_lt_of_pos _ (by decide)
      have t1 : oMod (.int (x + 104729 * (n + 1))) (.int 4294967291) st1 = some (.int m) := by rw [mod_ _ _ _ (by decide), hm]
      have t0 : oMul (.int 104729) (.int (n + 1)) st1 = some (.int (104729 * (n + 1))) := mul_ _ _ _ (by omega) (by omega)
      have t2 : oPow (.int m) (.int 5) st1 = some (.int (m ^ 5)) := pw m 5 st1 (by decide) (by decide) (by omega)
      generalize hm5 : m ^ 5 % 4294967279 = w
      have t3 : oMod (.int (m ^ 5)) (.int 4294967279) st1 = some (.int w) := by rw [mod_ _ _ _ (by decide), hm5]
      have t4 : oDiv (.int w) (.int 64) st1 = some (.int (w / 64)) := div_ _ _ _ (by decide) (by decide)
      have t5 : oMul (.int (w / 64)) (.int 69621) st1 = some (.int (w / 64 * 69621)) := mul_ _ _ _ (by decide) (by decide)
      have t6 : oMod (.int (w / 64 * 69621 + w)) (.int 4294967231) st1 = some (.int ((w / 64 * 69621 + w) % 4294967231)) := mod_ _ _ _ (by decide)
      have t7 : ∀ z, oDiv (.int z) (.int 8) st1 = some (.int (z / 8)) := fun z => div_ _ _ _ (by decide) (by decide)
      refine ⟨(w / 64 * 69621 + w) % 4294967231 / 8 % lim, ((n + 1) :: ls).map PV.int, ?_, (md _).1, (md _).2, town1⟩
      have s5 : ∀ v, (E1.set 5 v)[5]? = some v := fun v => by rw [← hE]; rfl
      have s2 : ∀ v, (E1.set 5 v)[2]? = some (some (.int lim)) := fun v => by rw [← hE]; rfl
      have s55 : ∀ v w, (E1.set 5 v).set 5 w = E1.set 5 w := fun v w => List.set_set ..
      simp only [sSeq, sIf, cond, b_ok, Bool.false_eq_true, if_false, sNil, sSet, sRet, eBin, eVar, eC, v0, v1, v2, v3, ixS, ix0 (n + 1) st1 c1, t0, ad, t1, s5, t2, t3, s55, t4, t5, t6, t7, s2, mod_ _ lim _ h0, ret]
      rw [← hst1]
end Lq
end
section
set_option Elab.async false
set_option linter.all false
set_option maxRecDepth 10000
namespace Lq
open PySem PySem.Spec PyProof.Rows L2
def p_is_between : Fn := runF 3
    (sRet (eAnd (eIsi .int (eVar 0)) (eAnd (eNot (eIsi .bl (eVar 0))) (eChain oLeI oLeI (eVar 1) (eVar 0) (eVar 2)))))
def p_check_things : Fn := runF 1
    (sIf (tNotF (tE (eCall 3 p_is_between (aCons (eVar 0) (aCons (eC (.int 1)) (aCons (eC (.int 5)) aNil)))))) (sRaise "InvalidThings") sNil)
def p_is_found_lot : Fn := runF 4
    (sSeq (sIf (tOrF (tNotF (tE (eIsi .tup (eVar 1)))) (tNotF (tE (eCB oAll (aCons (eFz (fComp (iVal (eVar 1)) (gNm 2) (fun _ st => .ok true st) (eCall 3 p_is_between (aCons (eVar 2) (aCons (eC (.int 0)) (aCons (eBin oSub (eVar 0) (eC (.int 1))) aNil)))) [2])) aNil))))) (sRet (eC (.bl false))) sNil)
    (sRet (eCB oAll (aCons (eFz (fComp (iRange1 (aCons (eBin oSub (eCB oLen (aCons (eVar 1) aNil)) (eC (.int 1))) aNil)) (gNm 3) (fun _ st => .ok true st) (eBin oLt (eBin oIx (eVar 1) (eVar 3)) (eBin oIx (eVar 1) (eBin oAdd (eVar 3) (eC (.int 1))))) [3])) aNil))))
def p_is_comparison : Fn := runF 2
    (sSeq (sIf (tOrF (tNotF (tE (eIsi .tup (eVar 1)))) (tOrF (tE (eBin oNe (eCB oLen (aCons (eVar 1) aNil)) (eC (.int 3)))) (tOrF (tNotF (tE (eIsi .str (eBin oIx (eVar 1) (eC (.int 1)))))) (tE (eBin oNin (eBin oIx (eVar 1) (eC (.int 1))) (eC (.tup [.str ">", .str ">=", .str "="]))))))) (sRet (eC (.bl false))) sNil)
    (sRet (eAnd (eCall 2 p_is_found_lot (aCons (eVar 0) (aCons (eBin oIx (eVar 1) (eC (.int 0))) aNil))) (eCall 2 p_is_found_lot (aCons (eVar 0) (aCons (eBin oIx (eVar 1) (eC (.int 2))) aNil))))))
end Lq
end
section
set_option Elab.async false
set_option linter.all false
set_option maxRecDepth 10000
namespace Lq
open PySem PySem.Spec PyProof.Rows L2
def p__law_pick : Fn := runF 3
    (sRet (eBin oIx (eVar 2) (eCall 3 drawF (aCons (eVar 0) (aCons (eVar 1) (aCons (eCB oLen (aCons (eVar 2) aNil)) aNil))))))
def p__law_scale : Fn := runF 5
    (sSeq (sSet 3 (eCall 3 p__law_pick (aCons (eVar 0) (aCons (eVar 1) (aCons (eFz (fDisp (aCons (eC (.int 2)) (aCons (eC (.int 4)) (aCons (eC (.int 9)) aNil))))) aNil)))))
    (sRet (eCB oTuple (aCons (eFz (fComp (iRange1 (aCons (eVar 2) aNil)) (gNm 4) (fun _ st => .ok true st) (eBin oAdd (eC (.int 1)) (eCall 3 drawF (aCons (eVar 0) (aCons (eVar 1) (aCons (eVar 3) aNil))))) [4])) aNil))))
def p__law_lots : Fn := runF 4
    (sSeq (sSet 1 (eFz (fDisp (aCons (eTup aNil) aNil))))
    (sSeq (sFor (iRange1 (aCons (eVar 0) aNil)) (gNm 2) (sSet 1 (eBin oAdd (eVar 1) (eFz (fComp (iVal (eVar 1)) (gNm 3) (fun _ st => .ok true st) (eBin oAdd (eVar 3) (eTup (aCons (eVar 2) aNil))) [3])))))
    (sRet (eFz (fSorted (eVar 1))))))
def p__law_weight : Fn := runF 3
    (sRet (eCB oSum (aCons (eFz (fComp (iVal (eVar 1)) (gNm 2) (fun _ st => .ok true st) (eBin oIx (eVar 0) (eVar 2)) [2])) aNil)))
def p__law_comparison : Fn := runF 9
    (sSeq (sSet 4 (eCall 1 p__law_lots (aCons (eVar 2) aNil)))
    (sSeq (sPar 5 6 (aCons (eCall 3 p__law_pick (aCons (eVar 0) (aCons (eVar 1) (aCons (eVar 4) aNil)))) (aCons (eCall 3 p__law_pick (aCons (eVar 0) (aCons (eVar 1) (aCons (eVar 4) aNil)))) aNil)))
    (sSeq (sSet 7 (eCall 3 p__law_pick (aCons (eVar 0) (aCons (eVar 1) (aCons (eFz (fDisp (aCons (eC (.str ">")) (aCons (eC (.str ">")) (aCons (eC (.str ">=")) (aCons (eC (.str "=")) aNil)))))) aNil)))))
    (sSeq (sIf (tE (eBin oGtI (eCall 3 drawF (aCons (eVar 0) (aCons (eVar 1) (aCons (eC (.int 6)) aNil)))) (eC (.int 0)))) (sSeq (sSet 8 (eBin oSub (eCall 2 p__law_weight (aCons (eVar 3) (aCons (eVar 5) aNil))) (eCall 2 p__law_weight (aCons (eVar 3) (aCons (eVar 6) aNil)))))
    (sSeq (sAsg (eIf (tE (eBin oGeI (eVar 8) (eC (.int 0)))) (eTup (aCons (eVar 5) (aCons (eVar 6) aNil))) (eTup (aCons (eVar 6) (aCons (eVar 5) aNil)))) (gTp 2 (gsCons (gNm 5) (gsCons (gNm 6) gsNil))))
    (sSet 7 (eIf (tOrF (tAndF (tE (eBin oEq (eVar 8) (eC (.int 0)))) (tE (eBin oNe (eVar 7) (eC (.str ">"))))) (tAndF (tE (eBin oNe (eVar 8) (eC (.int 0)))) (tE (eBin oNe (eVar 7) (eC (.str "=")))))) (eVar 7) (eC (.str ">=")))))) sNil)
    (sRet (eTup (aCons (eVar 5) (aCons (eVar 7) (aCons (eVar 6) aNil)))))))))
def p__law_told : Fn := runF 6
    (sSeq (sSet 4 (eCall 3 p__law_scale (aCons (eVar 0) (aCons (eVar 1) (aCons (eVar 2) aNil)))))
    (sRet (eCB oTuple (aCons (eFz (fComp (iRange1 (aCons (eCall 3 drawF (aCons (eVar 0) (aCons (eVar 1) (aCons (eBin oAdd (eVar 3) (eC (.int 1))) aNil)))) aNil)) (gNm 5) (fun _ st => .ok true st) (eCall 4 p__law_comparison (aCons (eVar 0) (aCons (eVar 1) (aCons (eVar 2) (aCons (eVar 4) aNil))))) [5])) aNil))))
def p_are_told : Fn := runF 3
    (sRet (eAnd (eIsi .tup (eVar 1)) (eAnd (eBin oLeI (eCB oLen (aCons (eVar 1) aNil)) (eC (.int 8))) (eCB oAll (aCons (eFz (fComp (iVal (eVar 1)) (gNm 2) (fun _ st => .ok true st) (eCall 2 p_is_comparison (aCons (eVar 0) (aCons (eVar 2) aNil))) [2])) aNil)))))
def p_check_told : Fn := runF 2
    (sSeq (sDrop (eCall 1 p_check_things (aCons (eVar 0) aNil)))
    (sIf (tNotF (tE (eCall 2 p_are_told (aCons (eVar 0) (aCons (eVar 1) aNil))))) (sRaise "InvalidTold") sNil))
def p_is_told : Fn := runF 2
    (sSeq (sDrop (eCall 1 p_check_things (aCons (eVar 0) aNil)))
    (sRet (eCall 2 p_are_told (aCons (eVar 0) (aCons (eVar 1) aNil)))))
def p__law_name : Fn := runF 2
    (sSeq (sIf (tNotF (tE (eIsE (excIs "ValueError") excs (eVar 0)))) (sRet (eUn oNeg (eC (.int 1)))) sNil)
    (sSeq (sSet 1 (eFz (fDisp (aCons (eIsE (excIs "InvalidThings") excs (eVar 0)) (aCons (eIsE (excIs "InvalidTold") excs (eVar 0)) aNil)))))
    (sSeq (sSet 1 (eBin oAdd (eVar 1) (eFz (fDisp (aCons (eIsE (excIs "InvalidWeights") excs (eVar 0)) (aCons (eIsE (excIs "InvalidLot") excs (eVar 0)) aNil))))))
    (sSeq (sSet 1 (eBin oAdd (eVar 1) (eFz (fDisp (aCons (eIsE (excIs "InvalidComparison") excs (eVar 0)) (aCons (eIsE (excIs "InvalidNumber") excs (eVar 0)) aNil))))))
    (sSeq (sSet 1 (eBin oAdd (eVar 1) (eFz (fDisp (aCons (eIsE (excIs "InvalidText") excs (eVar 0)) (aCons (eIsE (excIs "NotSure") excs (eVar 0)) aNil))))))
    (sSeq (sSet 1 (eBin oAdd (eVar 1) (eFz (fDisp (aCons (eIsE (excIs "NoneAgree") excs (eVar 0)) (aCons (eIsE (excIs "TooMany") excs (eVar 0)) aNil))))))
    (sSeq (sSet 1 (eBin oAdd (eVar 1) (eFz (fDisp (aCons (eIsE (excIs "NothingToUndo") excs (eVar 0)) aNil)))))
    (sRet (eIf (tE (eBin oEq (eLr goCount (eVar 1) (aCons (eC (.bl true)) aNil)) (eC (.int 1)))) (eLr goIndex (eVar 1) (aCons (eC (.bl true)) aNil)) (eUn oNeg (eC (.int 1))))))))))))
def p__law_raises : Fn := runF 2
    (sSeq (sSet 1 (eFz (fDisp (aCons (eC (.str "things")) (aCons (eC (.str "told")) (aCons (eC (.str "weights")) (aCons (eC (.str "lot")) (aCons (eC (.str "comparison")) (aCons (eC (.str "number")) aNil)))))))))
    (sSeq (sSet 1 (eBin oAdd (eVar 1) (eFz (fDisp (aCons (eC (.str "text")) (aCons (eC (.str "not_sure")) (aCons (eC (.str "none_agree")) (aCons (eC (.str "many")) (aCons (eC (.str "undo")) aNil)))))))))
    (sRet (eTup (aCons (eC (.str "raised")) (aCons (eLr goIndex (eVar 1) (aCons (eVar 0) aNil)) aNil))))))
end Lq
end
section
set_option Elab.async false
set_option linter.all false
namespace Sx
def sm : Nat → (Nat → Rat) → Rat
  | 0, _ => 0
  | n + 1, f => sm n f + f n
theorem sm_congr {f g : Nat → Rat} : ∀ {n : Nat}, (∀ j, j < n → f j = g j) → sm n f = sm n g
  | 0, _ => rfl
  | n + 1, h => by rw [sm, sm, sm_congr fun j hj => h j (by omega), h n (by omega)]
theorem sm_zero {f : Nat → Rat} : ∀ {n : Nat}, (∀ j, j < n → f j = 0) → sm n f = 0
  | 0, _ => rfl
  | n + 1, h => by rw [sm, sm_zero fun j hj => h j (by omega), h n (by omega)]; grind
theorem sm_add (f g : Nat → Rat) : ∀ n : Nat, sm n (fun j => f j + g j) = sm n f + sm n g
  | 0 => by simp only [sm]; grind
  | n + 1 => by simp only [sm, sm_add f g n]; grind
theorem sm_mul (a : Rat) (f : Nat → Rat) : ∀ n : Nat, sm n (fun j => a * f j) = a * sm n f
  | 0 => by simp only [sm]; grind
  | n + 1 => by simp only [sm, sm_mul a f n]; grind
theorem sm_sub (f g : Nat → Rat) : ∀ n : Nat, sm n (fun j => f j - g j) = sm n f - sm n g
  | 0 => by simp only [sm]; grind
  | n + 1 => by simp only [sm, sm_sub f g n]; grind
theorem sm_one {f : Nat → Rat} {k : Nat} : ∀ {n : Nat}, k < n → (∀ j, j < n → j ≠ k → f j = 0) → sm n f = f k
  | n + 1, hk, h => by
    rw [sm]
    by_cases e : k = n
    · subst e
      rw [sm_zero fun j hj => h j (by omega) (by omega)]; grind
    · rw [sm_one (k := k) (by omega) fun j hj => h j (by omega), h n (by omega) (by omega)]; grind
theorem sm_neg {f : Nat → Rat} : ∀ {n : Nat}, sm n f < 0 → ∃ j, j < n ∧ f j < 0
  | 0, h => by simp only [sm] at h; grind
  | n + 1, h => by
    rw [sm] at h
    by_cases z : f n < 0
    · exact ⟨n, by omega, z⟩
    · obtain ⟨j, hj, w⟩ := sm_neg (f := f) (n := n) (by grind)
      exact ⟨j, by omega, w⟩
theorem sm_comm (f : Nat → Nat → Rat) (n : Nat) : ∀ m : Nat, sm m (fun i => sm n (f i)) = sm n (fun j => sm m (fun i => f i j))
  | 0 => by simp only [sm]; rw [sm_zero fun _ _ => rfl]
  | m + 1 => by simp only [sm, sm_comm f n m, sm_add]
structure Tb where
  t : Nat → Nat → Rat
  r : Nat → Rat
  c : Nat → Rat
  z : Rat
  b : Nat → Nat
variable {m n k : Nat}
structure Inv (m n : Nat) (S : Tb) : Prop where
  bn : ∀ i, i < m → S.b i < n
  one : ∀ i, i < m → S.t i (S.b i) = 1
  off : ∀ i h, i < m → h < m → h ≠ i → S.t h (S.b i) = 0
  cz : ∀ i, i < m → S.c (S.b i) = 0
  rp : ∀ i, i < m → 0 ≤ S.r i
def Sol (m n : Nat) (S : Tb) (x : Nat → Rat) : Prop := ∀ i, i < m → sm n (fun j => S.t i j * x j) = S.r i
def Ker (m n : Nat) (S : Tb) (x : Nat → Rat) : Prop := ∀ i, i < m → sm n (fun j => S.t i j * x j) = 0
structure Step (m n k : Nat) (S S' : Tb) (e l : Nat) : Prop where
  ek : e < k
  kn : k ≤ n
  ce : S.c e < 0
  first : ∀ j, j < e → 0 ≤ S.c j
  lm : l < m
  pos : 0 < S.t l e
  ratio : ∀ i, i < m → 0 < S.t i e → S.r l * S.t i e ≤ S.r i * S.t l e
  tie : ∀ i, i < m → 0 < S.t i e → S.r l * S.t i e = S.r i * S.t l e → S.b l ≤ S.b i
  tl : ∀ j, S'.t l j = S.t l j / S.t l e
  rl : S'.r l = S.r l / S.t l e
  ti : ∀ i, i < m → i ≠ l → ∀ j, S'.t i j = S.t i j - S.t i e * (S.t l j / S.t l e)
  ri : ∀ i, i < m → i ≠ l → S'.r i = S.r i - S.t i e * (S.r l / S.t l e)
  cj : ∀ j, S'.c j = S.c j - S.c e * (S.t l j / S.t l e)
  zz : S'.z = S.z - S.c e * (S.r l / S.t l e)
  bl : S'.b l = e
  bi : ∀ i, i ≠ l → S'.b i = S.b i
theorem Inv.inj {S : Tb} (I : Inv m n S) {i h : Nat} (hi : i < m) (hh : h < m) (e : S.b i = S.b h) : i = h := by
  refine Classical.byContradiction fun ne => ?_
  have a := I.off i h hi hh (Ne.symm ne)
  rw [e, I.one h hh] at a
  grind
theorem Step.ne {S S' : Tb} {e l : Nat} (I : Inv m n S) (T : Step m n k S S' e l) {i : Nat} (hi : i < m) : S.b i ≠ e := fun h => by
  have := I.cz i hi
  rw [h] at this
  have := T.ce
  grind
theorem div_pos' {a b : Rat} (ha : 0 ≤ a) (hb : 0 < b) : 0 ≤ a / b := by
  rw [Rat.div_def]
  exact Rat.mul_nonneg ha (Rat.le_of_lt (Rat.inv_pos.mpr hb))
theorem Step.inv {S S' : Tb} {e l : Nat} (I : Inv m n S) (T : Step m n k S S' e l) : Inv m n S' := by
  have p := T.pos
  have p0 : S.t l e ≠ 0 := by grind
  have zl : ∀ i, i < m → i ≠ l → S.t l (S.b i) = 0 := fun i hi ne => I.off i l hi T.lm (Ne.symm ne)
  refine ⟨fun i hi => ?_, fun i hi => ?_, fun i h hi hh ne => ?_, fun i hi => ?_, fun i hi => ?_⟩
  · by_cases x : i = l
    · rw [x, T.bl]; have := T.ek; have := T.kn; omega
    · rw [T.bi i x]; exact I.bn i hi
  · by_cases x : i = l
    · rw [x, T.bl, T.tl]; grind
    · rw [T.bi i x, T.ti i hi x, I.one i hi, zl i hi x]; grind
  · by_cases x : i = l
    · subst x
      rw [T.bl, T.ti h hh ne]; grind
    · rw [T.bi i x]
      by_cases y : h = l
      · rw [y, T.tl, zl i hi x]; grind
      · rw [T.ti h hh y, I.off i h hi hh ne, zl i hi x]; grind
  · by_cases x : i = l
    · rw [x, T.bl, T.cj]; grind
    · rw [T.bi i x, T.cj, I.cz i hi, zl i hi x]; grind
  · by_cases x : i = l
    · rw [x, T.rl]; exact div_pos' (I.rp l T.lm) p
    · rw [T.ri i hi x]
      have q := div_pos' (I.rp l T.lm) p
      by_cases s : 0 < S.t i e
      · have u := T.ratio i hi s
        have v : S.r l / S.t l e * S.t l e = S.r l := by grind
        have w : (S.t i e * (S.r l / S.t l e)) * S.t l e ≤ S.r i * S.t l e := by
          have : (S.t i e * (S.r l / S.t l e)) * S.t l e = S.r l * S.t i e := by grind
          rw [this]; exact u
        have z : ¬ S.r i < S.t i e * (S.r l / S.t l e) := fun z => by
          have := Rat.mul_lt_mul_of_pos_right z p
          grind
        grind
      · have a : 0 ≤ (- S.t i e) * (S.r l / S.t l e) := Rat.mul_nonneg (by grind) q
        have b := I.rp i hi
        grind
theorem Step.ker {S S' : Tb} {e l : Nat} (T : Step m n k S S' e l) {x : Nat → Rat} (h : Ker m n S x) : Ker m n S' x := fun i hi => by
  by_cases y : i = l
  · subst y
    rw [sm_congr (g := fun j => (1 / S.t i e) * (S.t i j * x j)) fun j _ => by rw [T.tl]; grind, sm_mul, h i hi]; grind
  · rw [sm_congr (g := fun j => S.t i j * x j - (S.t i e / S.t l e) * (S.t l j * x j)) fun j _ => by rw [T.ti i hi y]; grind, sm_sub, sm_mul, h i hi, h l T.lm]; grind
theorem Step.sol {S S' : Tb} {e l : Nat} (T : Step m n k S S' e l) {x : Nat → Rat} (h : Sol m n S x) : Sol m n S' x := fun i hi => by
  by_cases y : i = l
  · subst y
    rw [sm_congr (g := fun j => (1 / S.t i e) * (S.t i j * x j)) fun j _ => by rw [T.tl]; grind, sm_mul, h i hi, T.rl]; grind
  · rw [sm_congr (g := fun j => S.t i j * x j - (S.t i e / S.t l e) * (S.t l j * x j)) fun j _ => by rw [T.ti i hi y]; grind, sm_sub, sm_mul, h i hi, h l T.lm, T.ri i hi y]; grind
theorem Step.ker' {S S' : Tb} {e l : Nat} (T : Step m n k S S' e l) {x : Nat → Rat} (h : Ker m n S' x) : Ker m n S x := by
  have p := T.pos
  have p0 : S.t l e ≠ 0 := by grind
  have hl : sm n (fun j => S.t l j * x j) = 0 := by
    have := h l T.lm
    rw [sm_congr (g := fun j => (1 / S.t l e) * (S.t l j * x j)) fun j _ => by rw [T.tl]; grind, sm_mul] at this
    grind
  intro i hi
  by_cases y : i = l
  · rw [y]; exact hl
  · have := h i hi
    rw [sm_congr (g := fun j => S.t i j * x j - (S.t i e / S.t l e) * (S.t l j * x j)) fun j _ => by rw [T.ti i hi y]; grind, sm_sub, sm_mul, hl] at this
    grind
theorem Step.cker {S S' : Tb} {e l : Nat} (T : Step m n k S S' e l) {x : Nat → Rat} (h : Ker m n S x) : sm n (fun j => S'.c j * x j) = sm n (fun j => S.c j * x j) := by
  rw [sm_congr (g := fun j => S.c j * x j - (S.c e / S.t l e) * (S.t l j * x j)) fun j _ => by rw [T.cj]; grind, sm_sub, sm_mul, h l T.lm]; grind
theorem Step.csol {S S' : Tb} {e l : Nat} (T : Step m n k S S' e l) {x : Nat → Rat} (h : Sol m n S x) : sm n (fun j => S'.c j * x j) - S'.z = sm n (fun j => S.c j * x j) - S.z := by
  rw [sm_congr (g := fun j => S.c j * x j - (S.c e / S.t l e) * (S.t l j * x j)) fun j _ => by rw [T.cj]; grind, sm_sub, sm_mul, h l T.lm, T.zz]; grind
end Sx
end
section
set_option Elab.async false
set_option linter.all false
namespace Sx
variable {m n k : Nat}
def bsol (m : Nat) (S : Tb) (j : Nat) : Rat := sm m fun i => if S.b i = j then S.r i else 0
def Bas (m : Nat) (S : Tb) (j : Nat) : Prop := ∃ i, i < m ∧ S.b i = j
theorem bsol_at {S : Tb} (I : Inv m n S) {i : Nat} (hi : i < m) : bsol m S (S.b i) = S.r i := by
  rw [bsol, sm_one hi fun h hh ne => if_neg fun e => ne (I.inj hh hi e), if_pos rfl]
theorem bsol_off {S : Tb} {j : Nat} (h : ¬ Bas m S j) : bsol m S j = 0 := by
  rw [bsol, sm_zero fun i hi => if_neg fun e => h ⟨i, hi, e⟩]
theorem sm_bas {S : Tb} (I : Inv m n S) (f g : Nat → Rat) : sm n (fun j => f j * sm m (fun i => if S.b i = j then g i else 0)) = sm m (fun i => f (S.b i) * g i) := by
  rw [sm_congr (g := fun j => sm m (fun i => f j * (if S.b i = j then g i else 0))) fun j _ => by rw [sm_mul], ← sm_comm]
  refine sm_congr fun i hi => ?_
  rw [sm_one (I.bn i hi) fun j _ ne => by rw [if_neg (Ne.symm ne)]; grind, if_pos rfl]
theorem bsol_sol {S : Tb} (I : Inv m n S) : Sol m n S (bsol m S) := fun i hi => by
  unfold bsol
  rw [sm_bas I, sm_one hi fun h hh ne => by rw [I.off h i hh hi (Ne.symm ne)]; grind, I.one i hi]; grind
theorem bsol_c {S : Tb} (I : Inv m n S) : sm n (fun j => S.c j * bsol m S j) = 0 := by
  unfold bsol
  rw [sm_bas I, sm_zero fun i hi => by rw [I.cz i hi]; grind]
def way (m : Nat) (S : Tb) (e j : Nat) : Rat := (if j = e then 1 else 0) - sm m fun i => if S.b i = j then S.t i e else 0
theorem sm_way {S : Tb} (I : Inv m n S) {e : Nat} (he : e < n) (f : Nat → Rat) : sm n (fun j => f j * way m S e j) = f e - sm m (fun i => f (S.b i) * S.t i e) := by
  unfold way
  rw [sm_congr (g := fun j => f j * (if j = e then 1 else 0) - f j * sm m (fun i => if S.b i = j then S.t i e else 0)) fun j _ => by grind, sm_sub, sm_bas I f, sm_one he fun j _ ne => by rw [if_neg ne]; grind, if_pos rfl]
  grind
theorem way_ker {S : Tb} (I : Inv m n S) {e : Nat} (he : e < n) : Ker m n S (way m S e) := fun i hi => by
  rw [sm_way I he, sm_one hi fun h hh ne => by rw [I.off h i hh hi (Ne.symm ne)]; grind, I.one i hi]; grind
theorem way_c {S : Tb} (I : Inv m n S) {e : Nat} (he : e < n) : sm n (fun j => S.c j * way m S e j) = S.c e := by
  rw [sm_way I he, sm_zero fun i hi => by rw [I.cz i hi]; grind]; grind
theorem way_at {S : Tb} (I : Inv m n S) {e i : Nat} (hi : i < m) (ne : S.b i ≠ e) : way m S e (S.b i) = - S.t i e := by
  rw [way, if_neg ne, sm_one hi fun h hh x => if_neg fun y => x (I.inj hh hi y), if_pos rfl]; grind
theorem way_off {S : Tb} {e j : Nat} (h : ¬ Bas m S j) : way m S e j = if j = e then 1 else 0 := by
  rw [way, sm_zero fun i hi => if_neg fun y => h ⟨i, hi, y⟩]; grind
structure Run (m n k : Nat) (S : Nat → Tb) (e l : Nat → Nat) (L : Nat) : Prop where
  inv : Inv m n (S 0)
  step : ∀ p, p < L → Step m n k (S p) (S (p + 1)) (e p) (l p)
variable {S : Nat → Tb} {e l : Nat → Nat} {L : Nat}
theorem Run.invs (R : Run m n k S e l L) : ∀ p, p ≤ L → Inv m n (S p)
  | 0, _ => R.inv
  | p + 1, h => (R.step p (by omega)).inv (R.invs p (by omega))
theorem Run.sols (R : Run m n k S e l L) {x : Nat → Rat} {p : Nat} (hx : Sol m n (S p) x) : ∀ d, p + d ≤ L → Sol m n (S (p + d)) x ∧ sm n (fun j => (S (p + d)).c j * x j) - (S (p + d)).z = sm n (fun j => (S p).c j * x j) - (S p).z
  | 0, _ => ⟨hx, rfl⟩
  | d + 1, h => by
    obtain ⟨a, b⟩ := R.sols hx d (by omega)
    have T := R.step (p + d) (by omega)
    exact ⟨T.sol a, (T.csol a).trans b⟩
theorem Run.kers (R : Run m n k S e l L) {x : Nat → Rat} {p : Nat} (hx : Ker m n (S p) x) : ∀ d, p + d ≤ L → Ker m n (S (p + d)) x ∧ sm n (fun j => (S (p + d)).c j * x j) = sm n (fun j => (S p).c j * x j)
  | 0, _ => ⟨hx, rfl⟩
  | d + 1, h => by
    obtain ⟨a, b⟩ := R.kers hx d (by omega)
    have T := R.step (p + d) (by omega)
    exact ⟨T.ker a, (T.cker a).trans b⟩
theorem Run.kers' (R : Run m n k S e l L) {x : Nat → Rat} {p : Nat} : ∀ d, p + d ≤ L → Ker m n (S (p + d)) x → Ker m n (S p) x
  | 0, _, h => h
  | d + 1, h, hx => R.kers' d (by omega) ((R.step (p + d) (by omega)).ker' hx)
theorem Run.ck (R : Run m n k S e l L) {x : Nat → Rat} {p q : Nat} (hp : p ≤ L) (hq : q ≤ L) (hx : Ker m n (S p) x) : sm n (fun j => (S q).c j * x j) = sm n (fun j => (S p).c j * x j) := by
  by_cases h : p ≤ q
  · have := (R.kers hx (q - p) (by omega)).2
    rwa [show p + (q - p) = q by omega] at this
  · have e : q + (p - q) = p := by omega
    have hk : Ker m n (S q) x := R.kers' (p := q) (p - q) (by omega) (by rw [e]; exact hx)
    have := (R.kers hk (p - q) (by omega)).2
    rw [e] at this
    exact this.symm
theorem Step.zle {S S' : Tb} {e l : Nat} (I : Inv m n S) (T : Step m n k S S' e l) : S.z ≤ S'.z ∧ (S'.z = S.z → S.r l = 0) := by
  have q := div_pos' (I.rp l T.lm) T.pos
  have c := T.ce
  have p := T.pos
  have a : 0 ≤ (- S.c e) * (S.r l / S.t l e) := Rat.mul_nonneg (by grind) q
  have z := T.zz
  refine ⟨by grind, fun h => ?_⟩
  have : S.c e * (S.r l / S.t l e) = 0 := by grind
  rcases Rat.mul_eq_zero.mp this with w | w
  · grind
  · have : S.r l / S.t l e * S.t l e = S.r l := by grind
    grind
theorem Run.zle (R : Run m n k S e l L) {p : Nat} : ∀ d, p + d ≤ L → (S p).z ≤ (S (p + d)).z
  | 0, _ => by simp only [Nat.add_zero]; grind
  | d + 1, h => by
    have a := R.zle (p := p) d (by omega)
    have b := ((R.step (p + d) (by omega)).zle (R.invs _ (by omega))).1
    show (S p).z ≤ (S (p + d + 1)).z
    grind
theorem Step.bas_new {S S' : Tb} {e l : Nat} (T : Step m n k S S' e l) {j : Nat} (h : Bas m S' j) : Bas m S j ∨ j = e := by
  obtain ⟨i, hi, rfl⟩ := h
  by_cases x : i = l
  · rw [x, T.bl]; exact .inr rfl
  · rw [T.bi i x]; exact .inl ⟨i, hi, rfl⟩
theorem Step.bas_old {S S' : Tb} {e l : Nat} (T : Step m n k S S' e l) {j : Nat} (h : Bas m S j) : Bas m S' j ∨ j = S.b l := by
  obtain ⟨i, hi, rfl⟩ := h
  by_cases x : i = l
  · rw [x]; exact .inr rfl
  · exact .inl ⟨i, hi, T.bi i x⟩
theorem Run.comes (R : Run m n k S e l L) {p j : Nat} (hp : ¬ Bas m (S p) j) : ∀ d, p + d ≤ L → Bas m (S (p + d)) j → ∃ s, p ≤ s ∧ s < p + d ∧ e s = j
  | 0, _, h => absurd h hp
  | d + 1, hd, h => by
    rcases (R.step (p + d) (by omega)).bas_new h with w | w
    · obtain ⟨s, a, b, c⟩ := R.comes hp d (by omega) w
      exact ⟨s, a, by omega, c⟩
    · exact ⟨p + d, by omega, by omega, w.symm⟩
theorem Run.goes (R : Run m n k S e l L) {p j : Nat} (hp : Bas m (S p) j) : ∀ d, p + d ≤ L → ¬ Bas m (S (p + d)) j → ∃ s, p ≤ s ∧ s < p + d ∧ (S s).b (l s) = j
  | 0, _, h => absurd hp h
  | d + 1, hd, h => by
    by_cases w : Bas m (S (p + d)) j
    · rcases (R.step (p + d) (by omega)).bas_old w with v | v
      · exact absurd v h
      · exact ⟨p + d, by omega, by omega, v.symm⟩
    · obtain ⟨s, a, b, c⟩ := R.goes hp d (by omega) w
      exact ⟨s, a, by omega, c⟩
theorem greatest (f : Nat → Nat) (p : Nat) : ∀ d, ∃ s, p ≤ s ∧ s < p + (d + 1) ∧ ∀ u, p ≤ u → u < p + (d + 1) → f u ≤ f s
  | 0 => ⟨p, by omega, by omega, fun u a b => by rw [show u = p by omega]; exact Nat.le_refl _⟩
  | d + 1 => by
    obtain ⟨s, a, b, c⟩ := greatest f p d
    by_cases h : f (p + (d + 1)) ≤ f s
    · refine ⟨s, a, by omega, fun u x y => ?_⟩
      by_cases z : u = p + (d + 1)
      · rw [z]; exact h
      · exact c u x (by omega)
    · refine ⟨p + (d + 1), by omega, by omega, fun u x y => ?_⟩
      by_cases z : u = p + (d + 1)
      · rw [z]; exact Nat.le_refl _
      · have := c u x (by omega); omega
theorem Run.no_return (R : Run m n k S e l L) {p q : Nat} (pq : p < q) (ql : q ≤ L) : ¬ ∀ j, Bas m (S p) j ↔ Bas m (S q) j := by
  intro same
  have Ip := R.invs p (by omega)
  have Iq := R.invs q ql
  -- nothing moves
  have zz : (S q).z = (S p).z := by
    have a := (R.sols (bsol_sol Ip) (q - p) (by omega)).2
    rw [show p + (q - p) = q by omega, bsol_c Ip] at a
    have b : sm n (fun j => (S q).c j * bsol m (S p) j) = 0 := sm_zero fun j hj => by
      by_cases h : Bas m (S q) j
      · obtain ⟨i, hi, rfl⟩ := h
        rw [Iq.cz i hi]; grind
      · rw [bsol_off fun w => h ((same j).mp w)]; grind
    rw [b] at a
    grind
  have r0 : ∀ s, p ≤ s → s < q → (S s).r (l s) = 0 := fun s a b => by
    have x := R.zle (p := p) (s - p) (by omega)
    have y := R.zle (p := s + 1) (q - (s + 1)) (by omega)
    rw [show p + (s - p) = s by omega] at x
    rw [show s + 1 + (q - (s + 1)) = q by omega] at y
    have z := (R.step s (by omega)).zle (R.invs s (by omega))
    exact z.2 (by grind)
  have bs : ∀ d, p + d ≤ q → ∀ j, bsol m (S (p + d)) j = bsol m (S p) j := fun d => by
    induction d with
    | zero => intro _ j; rfl
    | succ d ih =>
      intro h j
      rw [← ih (by omega) j]
      have T := R.step (p + d) (by omega)
      have z := r0 (p + d) (by omega) (by omega)
      refine sm_congr fun i hi => ?_
      show (if (S (p + d + 1)).b i = j then (S (p + d + 1)).r i else 0) = _
      by_cases x : i = l (p + d)
      · subst x
        rw [T.rl, z]
        split <;> split <;> grind
      · rw [T.bi i x, T.ri i hi x, z]
        split <;> grind
  have bse : ∀ s u, p ≤ s → s ≤ q → p ≤ u → u ≤ q → ∀ j, bsol m (S s) j = bsol m (S u) j := fun s u a b c d j => by
    have x := bs (s - p) (by omega) j
    have y := bs (u - p) (by omega) j
    rw [show p + (s - p) = s by omega] at x
    rw [show p + (u - p) = u by omega] at y
    rw [x, y]
  -- the greatest unknown that comes
  obtain ⟨s2, a2, b2, top⟩ := greatest e p (q - p - 1)
  have T2 := R.step s2 (by omega)
  have I2 := R.invs s2 (by omega)
  have out2 : ¬ Bas m (S s2) (e s2) := fun ⟨i, hi, h⟩ => T2.ne I2 hi h
  have in2 : Bas m (S (s2 + 1)) (e s2) := ⟨l s2, T2.lm, T2.bl⟩
  have fick : ∀ r s, p ≤ s → s ≤ q → Bas m (S s) r → ¬ Bas m (S s2) r → r ≤ e s2 := fun r s x y inn out => by
    have via : ∀ a b, p ≤ a → a ≤ b → b ≤ q → ¬ Bas m (S a) r → Bas m (S b) r → r ≤ e s2 := fun a b h1 h2 h3 h4 h5 => by
      obtain ⟨u, u1, u2, rfl⟩ := R.comes h4 (b - a) (by omega) (by rw [show a + (b - a) = b by omega]; exact h5)
      exact top u (by omega) (by omega)
    by_cases w : s2 ≤ s
    · exact via s2 s a2 w y out inn
    · by_cases v : Bas m (S q) r
      · exact via s2 q a2 (by omega) (Nat.le_refl _) out v
      · exact via p s (Nat.le_refl _) x y (fun h => v ((same r).mp h)) inn
  obtain ⟨s1, a1, b1, le1⟩ : ∃ s, p ≤ s ∧ s < q ∧ (S s).b (l s) = e s2 := by
    by_cases w : Bas m (S q) (e s2)
    · obtain ⟨s, x, y, z⟩ := R.goes ((same _).mpr w) (s2 - p) (by omega) (by rw [show p + (s2 - p) = s2 by omega]; exact out2)
      exact ⟨s, x, by omega, z⟩
    · obtain ⟨s, x, y, z⟩ := R.goes in2 (q - (s2 + 1)) (by omega) (by rw [show s2 + 1 + (q - (s2 + 1)) = q by omega]; exact w)
      exact ⟨s, by omega, by omega, z⟩
  have T1 := R.step s1 (by omega)
  have I1 := R.invs s1 (by omega)
  have e1n : e s1 < n := Nat.lt_of_lt_of_le T1.ek T1.kn
  have e1t : e s1 < e s2 := by
    have x := top s1 a1 (by omega)
    have y : (S s1).b (l s1) ≠ e s1 := T1.ne I1 T1.lm
    omega
  have neg : sm n (fun j => (S s2).c j * way m (S s1) (e s1) j) < 0 := by
    rw [R.ck (p := s1) (q := s2) (by omega) (by omega) (way_ker I1 e1n), way_c I1 e1n]
    exact T1.ce
  obtain ⟨r, rn, rneg⟩ := sm_neg neg
  by_cases rb : Bas m (S s1) r
  · obtain ⟨i, hi, rfl⟩ := rb
    rw [way_at I1 hi (T1.ne I1 hi)] at rneg
    have nb : ¬ Bas m (S s2) ((S s1).b i) := fun ⟨h, hh, w⟩ => by
      have := I2.cz h hh
      rw [w] at this
      rw [this] at rneg
      grind
    have rle := fick _ s1 a1 (by omega) ⟨i, hi, rfl⟩ nb
    by_cases rt : (S s1).b i = e s2
    · have il : i = l s1 := I1.inj hi T1.lm (by rw [rt, le1])
      subst il
      have x := T2.ce
      have y := T1.pos
      rw [rt] at rneg
      have : 0 ≤ (- (S s2).c (e s2)) * (S s1).t (l s1) (e s1) := Rat.mul_nonneg (by grind) (by grind)
      grind
    · have c2 := T2.first ((S s1).b i) (by omega)
      have tp : 0 < (S s1).t i (e s1) := by
        refine Classical.byContradiction fun np => ?_
        have : 0 ≤ (S s2).c ((S s1).b i) * (- (S s1).t i (e s1)) := Rat.mul_nonneg c2 (by grind)
        grind
      have ri : (S s1).r i = 0 := by
        rw [← bsol_at I1 hi, bse s1 s2 a1 (by omega) a2 (by omega), bsol_off nb]
      have := T1.tie i hi tp (by rw [ri, r0 s1 a1 b1]; grind)
      omega
  · rw [way_off rb] at rneg
    by_cases re : r = e s1
    · rw [if_pos re] at rneg
      have := T2.first r (by omega)
      grind
    · rw [if_neg re] at rneg
      grind
end Sx
end
section
set_option Elab.async false
set_option linter.all false
namespace Sx
variable {m n k : Nat}
def enc : Nat → (Nat → Bool) → Nat
  | 0, _ => 0
  | n + 1, f => enc n f + if f n = true then 2 ^ n else 0
theorem enc_lt (f : Nat → Bool) : ∀ n, enc n f < 2 ^ n
  | 0 => by simp [enc]
  | n + 1 => by
    have := enc_lt f n
    rw [enc, Nat.pow_succ]
    split <;> omega
theorem enc_inj {f g : Nat → Bool} : ∀ {n}, enc n f = enc n g → ∀ j, j < n → f j = g j
  | n + 1, h, j, hj => by
    have a := enc_lt f n
    have b := enc_lt g n
    rw [enc, enc] at h
    have e : f n = g n := by
      cases x : f n <;> cases y : g n <;> simp [x, y] at h ⊢ <;> omega
    by_cases w : j = n
    · rw [w, e]
    · rw [e] at h
      exact enc_inj (n := n) (by omega) j (by omega)
theorem pigeons : ∀ (K : Nat) (f : Nat → Nat), (∀ s, s ≤ K → f s < K) → ∃ p q, p < q ∧ q ≤ K ∧ f p = f q
  | 0, f, h => absurd (h 0 (Nat.le_refl _)) (by omega)
  | K + 1, f, h => by
    by_cases w : ∃ p, p ≤ K ∧ f p = f (K + 1)
    · obtain ⟨p, a, b⟩ := w
      exact ⟨p, K + 1, by omega, Nat.le_refl _, b⟩
    · have nv : ∀ s, s ≤ K → f s ≠ f (K + 1) := fun s a b => w ⟨s, a, b⟩
      obtain ⟨p, q, a, b, c⟩ := pigeons K (fun s => if f s = K then f (K + 1) else f s) fun s hs => by
        have x := h s (by omega)
        have y := h (K + 1) (Nat.le_refl _)
        have z := nv s hs
        show (if f s = K then f (K + 1) else f s) < K
        split <;> omega
      refine ⟨p, q, a, by omega, ?_⟩
      have x := nv p (by omega)
      have y := nv q (by omega)
      by_cases u : f p = K <;> by_cases v : f q = K
      · omega
      · rw [if_pos u, if_neg v] at c; omega
      · rw [if_neg u, if_pos v] at c; omega
      · rw [if_neg u, if_neg v] at c; exact c
open Classical in
theorem Run.short {S : Nat → Tb} {e l : Nat → Nat} {L : Nat} (R : Run m n k S e l L) : L < 2 ^ n := by
  refine Classical.byContradiction fun h => ?_
  obtain ⟨p, q, a, b, c⟩ := pigeons (2 ^ n) (fun s => enc n fun j => decide (Bas m (S s) j)) fun s _ => enc_lt _ n
  refine R.no_return (p := p) (q := q) a (by omega) fun j => ?_
  by_cases hj : j < n
  · have := enc_inj c j hj
    exact decide_eq_decide.mp this
  · have x : ∀ s, s ≤ L → ¬ Bas m (S s) j := fun s hs ⟨i, hi, e⟩ => by
      have := (R.invs s hs).bn i hi
      omega
    exact ⟨fun w => absurd w (x p (by omega)), fun w => absurd w (x q (by omega))⟩
end Sx
end
section
set_option Elab.async false
set_option linter.all false
namespace Sx
def si : Nat → (Nat → Int) → Int
  | 0, _ => 0
  | n + 1, f => si n f + f n
theorem si_congr {f g : Nat → Int} : ∀ {n : Nat}, (∀ j, j < n → f j = g j) → si n f = si n g
  | 0, _ => rfl
  | n + 1, h => by rw [si, si, si_congr fun j hj => h j (by omega), h n (by omega)]
theorem si_zero {f : Nat → Int} : ∀ {n : Nat}, (∀ j, j < n → f j = 0) → si n f = 0
  | 0, _ => rfl
  | n + 1, h => by rw [si, si_zero fun j hj => h j (by omega), h n (by omega)]; rfl
theorem si_add (f g : Nat → Int) : ∀ n : Nat, si n (fun j => f j + g j) = si n f + si n g
  | 0 => rfl
  | n + 1 => by simp only [si, si_add f g n]; omega
theorem si_mul (a : Int) (f : Nat → Int) : ∀ n : Nat, si n (fun j => a * f j) = a * si n f
  | 0 => by simp only [si]; omega
  | n + 1 => by simp only [si, si_mul a f n]; grind
theorem si_abs {f : Nat → Int} {K : Nat} : ∀ {n : Nat}, (∀ j, j < n → (f j).natAbs ≤ K) → (si n f).natAbs ≤ n * K
  | 0, _ => by simp [si]
  | n + 1, h => by
    have a := si_abs (f := f) (n := n) fun j hj => h j (by omega)
    have b := h n (by omega)
    rw [si, Nat.succ_mul]
    omega
theorem si_cast (f : Nat → Int) : ∀ n : Nat, ((si n f : Int) : Rat) = sm n (fun j => (f j : Rat))
  | 0 => by simp [si, sm]
  | n + 1 => by rw [si, sm, Rat.intCast_add, si_cast f n]
end Sx
end
section
set_option Elab.async false
set_option linter.all false
namespace Sx
structure It where
  T : Nat → Nat → Int
  C : Nat → Int
  B : Nat → Nat
def It.tb (n : Nat) (I : It) : Tb where
  t i j := (I.T i j : Rat) / (I.T i (I.B i) : Rat)
  r i := (I.T i (n + 1) : Rat) / (I.T i (I.B i) : Rat)
  c j := (I.C j : Rat) / (I.C n : Rat)
  z := (I.C (n + 1) : Rat) / (I.C n : Rat)
  b := I.B
structure IInv (m n : Nat) (I : It) : Prop where
  bn : ∀ i, i < m → I.B i < n
  pos : ∀ i, i < m → 0 < I.T i (I.B i)
  off : ∀ i h, i < m → h < m → h ≠ i → I.T h (I.B i) = 0
  cz : ∀ i, i < m → I.C (I.B i) = 0
  rp : ∀ i, i < m → 0 ≤ I.T i (n + 1)
  sc : ∀ i, i < m → I.T i n = 0
  sp : 0 < I.C n
structure IStep (m n k : Nat) (I I' : It) (e l : Nat) : Prop where
  ek : e < k
  kn : k ≤ n
  ce : I.C e < 0
  first : ∀ j, j < e → 0 ≤ I.C j
  lm : l < m
  pos : 0 < I.T l e
  ratio : ∀ i, i < m → 0 < I.T i e → I.T l (n + 1) * I.T i e ≤ I.T i (n + 1) * I.T l e
  tie : ∀ i, i < m → 0 < I.T i e → I.T l (n + 1) * I.T i e = I.T i (n + 1) * I.T l e → I.B l ≤ I.B i
  tl : ∀ j, I'.T l j = I.T l j
  ti : ∀ i, i < m → i ≠ l → ∃ g : Int, 0 < g ∧ ∀ j, I'.T i j * g = I.T i j * I.T l e - I.T i e * I.T l j
  cj : ∃ g : Int, 0 < g ∧ ∀ j, I'.C j * g = I.C j * I.T l e - I.C e * I.T l j
  bl : I'.B l = e
  bi : ∀ i, i ≠ l → I'.B i = I.B i
variable {m n k : Nat} {I I' : It} {e l : Nat}
theorem cpos {a : Int} (h : 0 < a) : (0 : Rat) < (a : Rat) := Rat.intCast_pos.mpr h
theorem cle {a b : Int} (h : a ≤ b) : (a : Rat) ≤ (b : Rat) := Rat.intCast_le_intCast.mpr h
theorem clt {a b : Int} (h : a < b) : (a : Rat) < (b : Rat) := Rat.intCast_lt_intCast.mpr h
theorem ceq {a b : Int} (h : (a : Rat) = (b : Rat)) : a = b := Rat.intCast_inj.mp h
theorem dpos {a b : Rat} (ha : 0 < a) (hb : 0 < b) : 0 < a / b := by
  rw [Rat.div_def]; exact Rat.mul_pos ha (Rat.inv_pos.mpr hb)
theorem dpos_iff {a : Int} {b : Rat} (hb : 0 < b) (h : 0 < (a : Rat) / b) : 0 < a := by
  refine Classical.byContradiction fun n => ?_
  have x : (a : Rat) ≤ 0 := cle (b := 0) (by omega)
  have y := div_pos' (a := - (a : Rat)) (b := b) (by grind) hb
  have : - (a : Rat) / b = - ((a : Rat) / b) := by grind
  grind
theorem dnn_iff {a : Int} {b : Rat} (hb : 0 < b) (h : 0 ≤ (a : Rat) / b) : 0 ≤ a := by
  refine Classical.byContradiction fun n => ?_
  have x : (a : Rat) < 0 := clt (b := 0) (by omega)
  have y := dpos (a := - (a : Rat)) (b := b) (by grind) hb
  have : - (a : Rat) / b = - ((a : Rat) / b) := by grind
  grind
theorem dd {x d p : Rat} (h : 0 < d) : x / d / (p / d) = x / p := by grind
theorem frac_gen (d' d g a' a f p x : Rat) (h1 : 0 < d') (h2 : 0 < d) (h3 : 0 < g) (h4 : 0 < p) (h5 : d' * g = d * p) (h6 : a' * g = a * p - f * x) : a' / d' = a / d - f / d * (x / p) := by
  have k1 : a' / d' = (a' * g) / (d' * g) := by grind
  rw [k1, h5, h6]
  grind
theorem frac_le {a b c d x y : Rat} (hx : 0 < x) (hy : 0 < y) (h : a * b ≤ c * d) : a / x * (b / y) ≤ c / y * (d / x) := by
  have q := div_pos' (a := c * d - a * b) (b := x * y) (by grind) (Rat.mul_pos hx hy)
  have : c / y * (d / x) - a / x * (b / y) = (c * d - a * b) / (x * y) := by grind
  grind
theorem frac_eq {a b c d x y : Rat} (hx : 0 < x) (hy : 0 < y) (h : a / x * (b / y) = c / y * (d / x)) : a * b = c * d := by
  have k1 : a * b = a / x * (b / y) * (x * y) := by grind
  have k2 : c * d = c / y * (d / x) * (x * y) := by grind
  rw [k1, k2, h]
theorem IInv.tb (H : IInv m n I) : Inv m n (I.tb n) := by
  refine ⟨H.bn, fun i hi => ?_, fun i h hi hh ne => ?_, fun i hi => ?_, fun i hi => ?_⟩
  · have := cpos (H.pos i hi)
    show (I.T i (I.B i) : Rat) / (I.T i (I.B i) : Rat) = 1
    grind
  · show (I.T h (I.B i) : Rat) / (I.T h (I.B h) : Rat) = 0
    rw [H.off i h hi hh ne, Rat.intCast_zero]; grind
  · show (I.C (I.B i) : Rat) / (I.C n : Rat) = 0
    rw [H.cz i hi, Rat.intCast_zero]; grind
  · exact div_pos' (cle (H.rp i hi)) (cpos (H.pos i hi))
theorem IStep.newpos (H : IInv m n I) (T : IStep m n k I I' e l) : ∀ i, i < m → 0 < I'.T i (I'.B i) := fun i hi => by
  by_cases x : i = l
  · rw [x, T.bl, T.tl]; exact T.pos
  · obtain ⟨g, g0, hg⟩ := T.ti i hi x
    have a := hg (I.B i)
    rw [H.off i l hi T.lm (Ne.symm x)] at a
    have b := Int.mul_pos (H.pos i hi) T.pos
    rw [T.bi i x]
    refine Classical.byContradiction fun np => ?_
    have := Int.mul_nonneg (a := - I'.T i (I.B i)) (b := g) (by omega) (by omega)
    have e1 : (- I'.T i (I.B i)) * g = - (I'.T i (I.B i) * g) := by grind
    omega
theorem IStep.step (H : IInv m n I) (T : IStep m n k I I' e l) : Step m n k (I.tb n) (I'.tb n) e l := by
  have s0 := cpos H.sp
  have p := cpos T.pos
  have dl := cpos (H.pos l T.lm)
  have cb : ∀ a b c d : Int, a * b = c * d → (a : Rat) * b = (c : Rat) * d := fun a b c d h => by rw [← Rat.intCast_mul, ← Rat.intCast_mul, h]
  have cl : ∀ a b c d : Int, a * b ≤ c * d → (a : Rat) * b ≤ (c : Rat) * d := fun a b c d h => by rw [← Rat.intCast_mul, ← Rat.intCast_mul]; exact cle h
  have c3 : ∀ a g b c d f : Int, a * g = b * c - d * f → (a : Rat) * g = (b : Rat) * c - (d : Rat) * f := fun a g b c d f h => by rw [← Rat.intCast_mul, ← Rat.intCast_mul, ← Rat.intCast_mul, ← Rat.intCast_sub, h]
  have sub1 : ∀ i, i < m → 0 < (I.tb n).t i e → 0 < I.T i e := fun i hi h => dpos_iff (cpos (H.pos i hi)) h
  obtain ⟨gc, gc0, hgc⟩ := T.cj
  have gcr := cpos gc0
  have cn : (I'.C n : Rat) * gc = (I.C n : Rat) * (I.T l e : Rat) := by
    have := c3 _ _ _ _ _ _ (hgc n)
    rw [H.sc l T.lm, Rat.intCast_zero] at this
    grind
  have cn0 : (0 : Rat) < (I'.C n : Rat) := by
    refine Classical.byContradiction fun np => ?_
    have a := Rat.mul_nonneg (a := - (I'.C n : Rat)) (b := gc) (by grind) (by grind)
    have b := Rat.mul_pos s0 p
    grind
  have rt : ∀ i, i < m → (i ≠ l) → ∃ g : Rat, 0 < g ∧ (I'.T i (I'.B i) : Rat) * g = (I.T i (I.B i) : Rat) * (I.T l e : Rat) ∧ ∀ j, (I'.T i j : Rat) * g = (I.T i j : Rat) * (I.T l e : Rat) - (I.T i e : Rat) * (I.T l j : Rat) := fun i hi x => by
    obtain ⟨g, g0, hg⟩ := T.ti i hi x
    refine ⟨(g : Rat), cpos g0, ?_, fun j => c3 _ _ _ _ _ _ (hg j)⟩
    rw [T.bi i x]
    have := c3 _ _ _ _ _ _ (hg (I.B i))
    rw [H.off i l hi T.lm (Ne.symm x), Rat.intCast_zero] at this
    grind
  refine ⟨T.ek, T.kn, ?_, fun j hj => div_pos' (cle (T.first j hj)) s0, T.lm, dpos p dl, fun i hi h => ?_, fun i hi h w => ?_, fun j => ?_, ?_, fun i hi x j => ?_, fun i hi x => ?_, fun j => ?_, ?_, T.bl, T.bi⟩
  · have := dpos (a := - (I.C e : Rat)) (b := (I.C n : Rat)) (by have := clt (b := 0) T.ce; grind) s0
    show (I.C e : Rat) / (I.C n : Rat) < 0
    grind
  · have a := cl _ _ _ _ (T.ratio i hi (sub1 i hi h))
    have di := cpos (H.pos i hi)
    show (I.T l (n + 1) : Rat) / (I.T l (I.B l) : Rat) * ((I.T i e : Rat) / (I.T i (I.B i) : Rat)) ≤ (I.T i (n + 1) : Rat) / (I.T i (I.B i) : Rat) * ((I.T l e : Rat) / (I.T l (I.B l) : Rat))
    exact frac_le dl di a
  · refine T.tie i hi (sub1 i hi h) (ceq ?_)
    have di := cpos (H.pos i hi)
    have w' : (I.T l (n + 1) : Rat) / (I.T l (I.B l) : Rat) * ((I.T i e : Rat) / (I.T i (I.B i) : Rat)) = (I.T i (n + 1) : Rat) / (I.T i (I.B i) : Rat) * ((I.T l e : Rat) / (I.T l (I.B l) : Rat)) := w
    rw [Rat.intCast_mul, Rat.intCast_mul]
    exact frac_eq dl di w'
  · show (I'.T l j : Rat) / (I'.T l (I'.B l) : Rat) = (I.T l j : Rat) / (I.T l (I.B l) : Rat) / ((I.T l e : Rat) / (I.T l (I.B l) : Rat))
    rw [T.bl, T.tl, T.tl, dd dl]
  · show (I'.T l (n + 1) : Rat) / (I'.T l (I'.B l) : Rat) = (I.T l (n + 1) : Rat) / (I.T l (I.B l) : Rat) / ((I.T l e : Rat) / (I.T l (I.B l) : Rat))
    rw [T.bl, T.tl, T.tl, dd dl]
  · obtain ⟨g, g0, h1, h2⟩ := rt i hi x
    have := frac_gen _ _ _ _ _ _ _ _ (cpos (T.newpos H i hi)) (cpos (H.pos i hi)) g0 p h1 (h2 j)
    show (I'.T i j : Rat) / (I'.T i (I'.B i) : Rat) = (I.T i j : Rat) / (I.T i (I.B i) : Rat) - (I.T i e : Rat) / (I.T i (I.B i) : Rat) * ((I.T l j : Rat) / (I.T l (I.B l) : Rat) / ((I.T l e : Rat) / (I.T l (I.B l) : Rat)))
    rw [this, dd dl]
  · obtain ⟨g, g0, h1, h2⟩ := rt i hi x
    have := frac_gen _ _ _ _ _ _ _ _ (cpos (T.newpos H i hi)) (cpos (H.pos i hi)) g0 p h1 (h2 (n + 1))
    show (I'.T i (n + 1) : Rat) / (I'.T i (I'.B i) : Rat) = (I.T i (n + 1) : Rat) / (I.T i (I.B i) : Rat) - (I.T i e : Rat) / (I.T i (I.B i) : Rat) * ((I.T l (n + 1) : Rat) / (I.T l (I.B l) : Rat) / ((I.T l e : Rat) / (I.T l (I.B l) : Rat)))
    rw [this, dd dl]
  · have := frac_gen _ _ _ _ _ _ _ _ cn0 s0 gcr p cn (c3 _ _ _ _ _ _ (hgc j))
    show (I'.C j : Rat) / (I'.C n : Rat) = (I.C j : Rat) / (I.C n : Rat) - (I.C e : Rat) / (I.C n : Rat) * ((I.T l j : Rat) / (I.T l (I.B l) : Rat) / ((I.T l e : Rat) / (I.T l (I.B l) : Rat)))
    rw [this, dd dl]
  · have := frac_gen _ _ _ _ _ _ _ _ cn0 s0 gcr p cn (c3 _ _ _ _ _ _ (hgc (n + 1)))
    show (I'.C (n + 1) : Rat) / (I'.C n : Rat) = (I.C (n + 1) : Rat) / (I.C n : Rat) - (I.C e : Rat) / (I.C n : Rat) * ((I.T l (n + 1) : Rat) / (I.T l (I.B l) : Rat) / ((I.T l e : Rat) / (I.T l (I.B l) : Rat)))
    rw [this, dd dl]
theorem IStep.inv (H : IInv m n I) (T : IStep m n k I I' e l) : IInv m n I' := by
  have J := (T.step H).inv H.tb
  have np := T.newpos H
  have cn : 0 < I'.C n := by
    obtain ⟨g, g0, hg⟩ := T.cj
    have a := hg n
    rw [H.sc l T.lm] at a
    have b := Int.mul_pos H.sp T.pos
    refine Classical.byContradiction fun x => ?_
    have := Int.mul_nonneg (a := - I'.C n) (b := g) (by omega) (by omega)
    have e1 : (- I'.C n) * g = - (I'.C n * g) := by grind
    omega
  have z0 : ∀ (a : Int) (b : Rat), 0 < b → (a : Rat) / b = 0 → a = 0 := fun a b hb h => by
    have : (a : Rat) = (a : Rat) / b * b := by grind
    rw [h] at this
    exact ceq (by rw [this, Rat.intCast_zero]; grind)
  refine ⟨J.bn, np, fun i h hi hh ne => z0 _ _ (cpos (np h hh)) (J.off i h hi hh ne), fun i hi => z0 _ _ (cpos cn) (J.cz i hi), fun i hi => dnn_iff (cpos (np i hi)) (J.rp i hi), fun i hi => ?_, cn⟩
  by_cases x : i = l
  · rw [x, T.tl]; exact H.sc l T.lm
  · obtain ⟨g, g0, hg⟩ := T.ti i hi x
    have a := hg n
    rw [H.sc l T.lm, H.sc i hi] at a
    have : I'.T i n * g = 0 := by rw [a]; simp
    rcases Int.mul_eq_zero.mp this with w | w <;> omega
end Sx
end
section
set_option Elab.async false
set_option linter.all false
namespace Sx
variable {m n k : Nat} {I I' : It} {e l : Nat} {many : Nat} {R : Nat → Nat → Int} {C0 : Nat → Int}
def Prim (f : Nat → Int) : Prop := ∀ d : Nat, (∀ j, d ∣ (f j).natAbs) → d = 1
structure Lin (m n many : Nat) (R : Nat → Nat → Int) (C0 : Nat → Int) (I : It) : Prop where
  lin : ∀ i, i < m → ∀ j, I.T i j = si m (fun k => I.T i (many + k) * R k j)
  clin : ∀ j, I.C j = I.C n * C0 j + si m (fun k => I.C (many + k) * R k j)
  span : ∀ k, k < m → ∃ β : Nat → Rat, ∀ j, (R k j : Rat) = sm m (fun h => β h * (I.T h j : Rat))
theorem cancel {g a b : Int} (h : 0 < g) (e : a * g = b * g) : a = b := Int.eq_of_mul_eq_mul_right (by omega) e
theorem IStep.lin (H : IInv m n I) (T : IStep m n k I I' e l) (A : Lin m n many R C0 I) : Lin m n many R C0 I' := by
  refine ⟨fun i hi j => ?_, fun j => ?_, fun q hq => ?_⟩
  · by_cases x : i = l
    · rw [x, T.tl, A.lin l T.lm j]
      exact si_congr fun k _ => by rw [T.tl]
    · obtain ⟨g, g0, hg⟩ := T.ti i hi x
      refine cancel g0 ?_
      rw [hg j, Int.mul_comm (si _ _) g, ← si_mul, si_congr (g := fun k => I.T l e * (I.T i (many + k) * R k j) + (- I.T i e) * (I.T l (many + k) * R k j)) fun k _ => by
        have := hg (many + k)
        grind, si_add, si_mul, si_mul, ← A.lin i hi j, ← A.lin l T.lm j]
      grind
  · obtain ⟨g, g0, hg⟩ := T.cj
    refine cancel g0 ?_
    have cn : I'.C n * g = I.C n * I.T l e := by
      have := hg n
      rw [H.sc l T.lm] at this
      grind
    have : (I'.C n * C0 j + si m (fun k => I'.C (many + k) * R k j)) * g = (I'.C n * g) * C0 j + g * si m (fun k => I'.C (many + k) * R k j) := by grind
    rw [this, hg j, cn, ← si_mul, si_congr (g := fun k => I.T l e * (I.C (many + k) * R k j) + (- I.C e) * (I.T l (many + k) * R k j)) fun k _ => by
        have := hg (many + k)
        grind, si_add, si_mul, si_mul, ← A.lin l T.lm j]
    have := A.clin j
    grind
  · obtain ⟨β, hβ⟩ := A.span q hq
    have p := cpos T.pos
    -- each old row by the new ones
    have old : ∀ h, ∃ ab : Rat × Rat, h < m → ∀ j, (I.T h j : Rat) = ab.1 * (I'.T h j : Rat) + ab.2 * (I'.T l j : Rat) := fun h => by
      by_cases hm : h < m
      · by_cases x : h = l
        · exact ⟨(1, 0), fun _ j => by rw [x, T.tl]; grind⟩
        · obtain ⟨g, g0, hg⟩ := T.ti h hm x
          refine ⟨((g : Rat) / (I.T l e : Rat), (I.T h e : Rat) / (I.T l e : Rat)), fun _ j => ?_⟩
          have a : (I'.T h j : Rat) * g = (I.T h j : Rat) * (I.T l e : Rat) - (I.T h e : Rat) * (I.T l j : Rat) := by
            rw [← Rat.intCast_mul, ← Rat.intCast_mul, ← Rat.intCast_mul, ← Rat.intCast_sub, hg j]
          rw [T.tl]
          show (I.T h j : Rat) = (g : Rat) / (I.T l e : Rat) * (I'.T h j : Rat) + (I.T h e : Rat) / (I.T l e : Rat) * (I.T l j : Rat)
          clear hg hβ
          grind
      · exact ⟨(0, 0), fun w => absurd w hm⟩
    obtain ⟨ab, hab⟩ := Classical.axiomOfChoice old
    refine ⟨fun h => β h * (ab h).1 + (if h = l then sm m (fun h => β h * (ab h).2) else 0), fun j => ?_⟩
    rw [hβ j, sm_congr (g := fun h => β h * (ab h).1 * (I'.T h j : Rat) + (I'.T l j : Rat) * (β h * (ab h).2)) fun h hh => by rw [hab h hh j]; grind, sm_add, sm_mul,
      sm_congr (f := fun h => (β h * (ab h).1 + if h = l then sm m (fun h => β h * (ab h).2) else 0) * (I'.T h j : Rat)) (g := fun h => β h * (ab h).1 * (I'.T h j : Rat) + (if h = l then sm m (fun h => β h * (ab h).2) else 0) * (I'.T h j : Rat)) fun h hh => by grind, sm_add,
      sm_one (f := fun h => (if h = l then sm m (fun h => β h * (ab h).2) else 0) * (I'.T h j : Rat)) T.lm fun h _ ne => by rw [if_neg ne]; grind, if_pos rfl]
    grind
structure Orig (m n many : Nat) (R : Nat → Nat → Int) (C0 : Nat → Int) : Prop where
  m6 : m ≤ 6
  nm : n = many + m
  unit : ∀ k h, k < m → h < m → R k (many + h) = if h = k then 1 else 0
  small : ∀ k j, k < m → (R k j).natAbs ≤ 1
  csmall : ∀ j, (C0 j).natAbs ≤ 6
  cart : ∀ h, h < m → C0 (many + h) = 0
end Sx
end
section
set_option Elab.async false
set_option linter.all false
namespace Sx
abbrev at0 (xs : List Int) (j : Nat) : Int := xs.getD j 0
def gl : List Int → Nat
  | [] => 0
  | x :: r => Nat.gcd x.natAbs (gl r)
def short (xs : List Int) : List Int := if 1 < gl xs then xs.map (fun x => x / (gl xs : Int)) else xs
def comb (row other : List Int) (place : Nat) : List Int := List.zipWith (fun a b => a * at0 other place - at0 row place * b) row other
def clr (row other : List Int) (place : Nat) : List Int := if at0 row place = 0 then row else short (comb row other place)
structure LT where
  rows : List (List Int)
  basis : List Nat
  costs : List Int
def LT.row (X : LT) (i : Nat) : List Int := X.rows.getD i []
def LT.it (X : LT) : It := ⟨fun i j => at0 (X.row i) j, at0 X.costs, fun i => X.basis.getD i 0⟩
def leave (X : LT) (w place : Nat) : Nat → Option Nat
  | 0 => none
  | q + 1 => match leave X w place q with
    | none => if 0 < at0 (X.row q) place then some q else none
    | some b => if 0 < at0 (X.row q) place ∧ (at0 (X.row q) w * at0 (X.row b) place < at0 (X.row b) w * at0 (X.row q) place ∨ at0 (X.row q) w * at0 (X.row b) place = at0 (X.row b) w * at0 (X.row q) place ∧ X.basis.getD q 0 < X.basis.getD b 0) then some q else some b
def ratio (X : LT) (w place i : Nat) : Rat := (at0 (X.row i) w : Rat) / (at0 (X.row i) place : Rat)
end Sx
end
section
set_option Elab.async false
set_option linter.all false
namespace Sx
variable {m n many : Nat} {R : Nat → Nat → Int} {C0 : Nat → Int}
structure OK (m n many : Nat) (R : Nat → Nat → Int) (C0 : Nat → Int) (X : LT) : Prop where
  rl : X.rows.length = m
  rw : ∀ i, i < m → (X.row i).length = n + 2
  bl : X.basis.length = m
  cl : X.costs.length = n + 2
  inv : IInv m n X.it
  lin : Lin m n many R C0 X.it
  pr : ∀ i, i < m → Prim (X.it.T i)
  pc : Prim X.it.C
  idn : ∀ x, Sol m n (X.it.tb n) x → sm n (fun j => (X.it.tb n).c j * x j) - (X.it.tb n).z = sm m (fun h => x (many + h))
  orig : ∀ x, Sol m n (X.it.tb n) x → ∀ h, h < m → sm n (fun j => (R h j : Rat) * x j) = (R h (n + 1) : Rat)
def neg (many : Nat) (X : LT) : List Nat := (List.range many).filter fun j => decide (at0 X.costs j < 0)
def turn (m : Nat) (X : LT) (l e : Nat) : LT where
  rows := (List.range m).map fun i => if i = l then X.row l else clr (X.row i) (X.row l) e
  basis := X.basis.set l e
  costs := clr X.costs (X.row l) e
def nxt (m n many : Nat) (X : LT) : LT := match neg many X with
  | [] => X
  | e :: _ => match leave X (n + 1) e m with
    | some l => turn m X l e
    | none => X
def its (m n many : Nat) (X : LT) : Nat → LT
  | 0 => X
  | p + 1 => nxt m n many (its m n many X p)
end Sx
end
section
set_option Elab.async false
set_option linter.all false
namespace Sx
structure Start (m n many : Nat) (X : LT) : Prop where
  m6 : m ≤ 6
  nm : n = many + m
  rl : X.rows.length = m
  rw : ∀ i, i < m → (X.row i).length = n + 2
  bl : X.basis.length = m
  bs : ∀ i, i < m → X.basis.getD i 0 = many + i
  cl : X.costs.length = n + 2
  unit : ∀ k h, k < m → h < m → at0 (X.row k) (many + h) = if h = k then 1 else 0
  small : ∀ k j, k < m → (at0 (X.row k) j).natAbs ≤ 1
  sc : ∀ k, k < m → at0 (X.row k) n = 0
  rp : ∀ k, k < m → 0 ≤ at0 (X.row k) (n + 1)
  cn : at0 X.costs n = 1
  ca : ∀ h, h < m → at0 X.costs (many + h) = 0
  cs : ∀ j, j < many ∨ j = n + 1 → at0 X.costs j = - si m (fun h => at0 (X.row h) j)
variable {m n many : Nat} {X : LT}
theorem sm_split (f : Nat → Rat) (a : Nat) : ∀ b, sm (a + b) f = sm a f + sm b (fun j => f (a + j))
  | 0 => by simp only [sm, Nat.add_zero]; grind
  | b + 1 => by
    show sm (a + b) f + f (a + b) = _
    rw [sm_split f a b, sm]; grind
theorem si_one {f : Nat → Int} {k : Nat} : ∀ {n : Nat}, k < n → (∀ j, j < n → j ≠ k → f j = 0) → si n f = f k
  | n + 1, hk, h => by
    rw [si]
    by_cases e : k = n
    · subst e
      rw [si_zero fun j hj => h j (by omega) (by omega)]; omega
    · rw [si_one (k := k) (by omega) fun j hj => h j (by omega), h n (by omega) (by omega)]; omega
theorem Start.orig (A : Start m n many X) : Orig m n many (fun k j => at0 (X.row k) j) (at0 X.costs) := by
  refine ⟨A.m6, A.nm, A.unit, A.small, fun j => ?_, A.ca⟩
  by_cases h1 : j < many ∨ j = n + 1
  · rw [A.cs j h1, Int.natAbs_neg]
    have := si_abs (f := fun h => at0 (X.row h) j) (K := 1) (n := m) fun h hh => A.small h j hh
    have := A.m6
    omega
  · by_cases h2 : j = n
    · rw [h2, A.cn]; decide
    · by_cases h3 : j < n
      · have e : j = many + (j - many) := by omega
        rw [e, A.ca _ (by have := A.nm; omega)]; decide
      · have : at0 X.costs j = 0 := by
          unfold at0
          rw [List.getD_eq_getElem?_getD, List.getElem?_eq_none (by rw [A.cl]; omega)]; rfl
        rw [this]; decide
theorem Start.ok (A : Start m n many X) : OK m n many (fun k j => at0 (X.row k) j) (at0 X.costs) X := by
  have nm := A.nm
  have B : ∀ i, i < m → X.it.B i = many + i := A.bs
  have T1 : ∀ i, i < m → X.it.T i (X.it.B i) = 1 := fun i hi => by
    rw [B i hi]
    show at0 (X.row i) (many + i) = 1
    rw [A.unit i i hi hi, if_pos rfl]
  have I : IInv m n X.it := by
    refine ⟨fun i hi => by rw [B i hi]; omega, fun i hi => by rw [T1 i hi]; decide, fun i h hi hh ne => ?_, fun i hi => ?_, A.rp, A.sc, ?_⟩
    · rw [B i hi]
      show at0 (X.row h) (many + i) = 0
      rw [A.unit h i hh hi, if_neg (Ne.symm ne)]
    · rw [B i hi]; exact A.ca i hi
    · show 0 < at0 X.costs n
      rw [A.cn]; decide
  have tt : ∀ i, i < m → ∀ j, (X.it.tb n).t i j = (at0 (X.row i) j : Rat) := fun i hi j => by
    show (X.it.T i j : Rat) / (X.it.T i (X.it.B i) : Rat) = _
    rw [T1 i hi]
    show (at0 (X.row i) j : Rat) / ((1 : Int) : Rat) = _
    rw [Rat.intCast_one]; grind
  have rr : ∀ i, i < m → (X.it.tb n).r i = (at0 (X.row i) (n + 1) : Rat) := fun i hi => by
    show (X.it.T i (n + 1) : Rat) / (X.it.T i (X.it.B i) : Rat) = _
    rw [T1 i hi]
    show (at0 (X.row i) (n + 1) : Rat) / ((1 : Int) : Rat) = _
    rw [Rat.intCast_one]; grind
  have cc : ∀ j, (X.it.tb n).c j = (at0 X.costs j : Rat) := fun j => by
    show (at0 X.costs j : Rat) / (at0 X.costs n : Rat) = _
    rw [A.cn, Rat.intCast_one]; grind
  have zz : (X.it.tb n).z = (at0 X.costs (n + 1) : Rat) := by
    show (at0 X.costs (n + 1) : Rat) / (at0 X.costs n : Rat) = _
    rw [A.cn, Rat.intCast_one]; grind
  have or_ : ∀ x, Sol m n (X.it.tb n) x → ∀ h, h < m → sm n (fun j => (at0 (X.row h) j : Rat) * x j) = (at0 (X.row h) (n + 1) : Rat) := fun x hx h hh => by
    have := hx h hh
    rw [rr h hh, sm_congr (g := fun j => (at0 (X.row h) j : Rat) * x j) fun j _ => by rw [tt h hh j]] at this
    exact this
  refine ⟨A.rl, A.rw, A.bl, A.cl, I, ⟨fun i hi j => ?_, fun j => ?_, fun k hk => ⟨fun h => if h = k then 1 else 0, fun j => ?_⟩⟩, fun i hi d hd => ?_, fun d hd => ?_, fun x hx => ?_, or_⟩
  · rw [si_one hi fun h hh ne => by
      show at0 (X.row i) (many + h) * at0 (X.row h) j = 0
      rw [A.unit i h hi hh, if_neg ne]; omega]
    show at0 (X.row i) j = at0 (X.row i) (many + i) * at0 (X.row i) j
    rw [A.unit i i hi hi, if_pos rfl]; omega
  · show at0 X.costs j = at0 X.costs n * at0 X.costs j + si m (fun k => at0 X.costs (many + k) * at0 (X.row k) j)
    rw [A.cn, si_zero fun h hh => by rw [A.ca h hh]; omega]; omega
  · rw [sm_one hk fun h hh ne => by
      show (if h = k then (1 : Rat) else 0) * (at0 (X.row h) j : Rat) = 0
      rw [if_neg ne]; grind]
    show (at0 (X.row k) j : Rat) = (if k = k then (1 : Rat) else 0) * (at0 (X.row k) j : Rat)
    rw [if_pos rfl]
    grind
  · have := hd (X.it.B i)
    rw [T1 i hi] at this
    exact Nat.dvd_one.mp this
  · have := hd n
    have e : X.it.C n = 1 := A.cn
    rw [e] at this
    exact Nat.dvd_one.mp this
  · have o := or_ x hx
    rw [zz, A.cs (n + 1) (.inr rfl), sm_congr (g := fun j => (at0 X.costs j : Rat) * x j) fun j _ => by rw [cc j]]
    subst nm
    rw [sm_split, sm_zero (f := fun j => (at0 X.costs (many + j) : Rat) * x (many + j)) fun h hh => by rw [A.ca h hh, Rat.intCast_zero]; grind]
    have o' : ∀ h, h < m → x (many + h) = (at0 (X.row h) (many + m + 1) : Rat) - sm many (fun j => (at0 (X.row h) j : Rat) * x j) := fun h hh => by
      have a := o h hh
      rw [sm_split, sm_one (f := fun j => (at0 (X.row h) (many + j) : Rat) * x (many + j)) hh fun j hj ne => by rw [A.unit h j hh hj, if_neg ne, Rat.intCast_zero]; grind, A.unit h h hh hh, if_pos rfl, Rat.intCast_one] at a
      grind
    rw [sm_congr (f := fun h => x (many + h)) o', sm_sub, sm_comm, Rat.intCast_neg, si_cast]
    rw [sm_congr (f := fun j => (at0 X.costs j : Rat) * x j) (g := fun j => (-1) * sm m (fun i => (at0 (X.row i) j : Rat) * x j)) fun j hj => by
      rw [A.cs j (.inl hj), Rat.intCast_neg, si_cast, sm_congr (f := fun i => (at0 (X.row i) j : Rat) * x j) (g := fun i => x j * (at0 (X.row i) j : Rat)) fun i _ => by grind, sm_mul]
      grind, sm_mul]
    grind
end Sx
end
section
set_option Elab.async false
set_option linter.all false
set_option maxRecDepth 10000
set_option exponentiation.threshold 20000
namespace Lq
open PySem PySem.Spec PyProof.Rows L2
theorem v0 {x : Option PV} {e : Ev} : (x :: e)[0]? = some x := rfl
theorem vS {x : Option PV} {e : Ev} {i : Nat} : (x :: e)[i + 1]? = e[i]? := rfl
theorem oNe_int (a b : Int) (st : Store) : oNe (.int a) (.int b) st = some (.bl (!(a == b))) := by simp [oNe, rsv, dChk, dOk, noScr, peq]
theorem oEq_int (a b : Int) (st : Store) : oEq (.int a) (.int b) st = some (.bl (a == b)) := by simp [oEq, rsv, dChk, dOk, noScr, peq]
theorem oAdd_int (a b : Int) (s : Store) : oAdd (.int a) (.int b) s = some (.int (a + b)) := rfl
theorem oSub_int (a b : Int) (s : Store) : oSub (.int a) (.int b) s = some (.int (a - b)) := rfl
theorem oGt_int (a b : Int) (s : Store) : oGtI (.int a) (.int b) s = some (.bl (decide (b < a))) := rfl
theorem oGe_int (a b : Int) (s : Store) : oGeI (.int a) (.int b) s = some (.bl (decide (b ≤ a))) := rfl
abbrev nI (ns : List Int) : List PV := ns.map PV.int
end Lq
end
section
set_option Elab.async false
set_option linter.all false
set_option maxRecDepth 10000
set_option exponentiation.threshold 20000
namespace Lq
open PySem PySem.Spec PyProof.Rows L2
open Sx (at0 clr comb short)
theorem at_ints {xs : List Int} {j : Nat} (h : j < xs.length) : atI (nI xs) (j : Int) = some (.int (at0 xs j)) := by
  refine atI_nat ?_
  rw [List.getElem?_map, List.getElem?_eq_getElem h]
  simp [at0, h]
theorem ixL {xs : List Int} {j : Nat} (st : Store) (h : j < xs.length) : oIx (.lst (nI xs)) (.int (j : Int)) st = some (.int (at0 xs j)) := by
  simp only [oIx, asS, asL]; exact at_ints h
end Lq
end
section
set_option Elab.async false
set_option linter.all false
set_option maxRecDepth 10000
set_option exponentiation.threshold 20000
namespace Lq
open PySem PySem.Spec PyProof.Rows L2
open Sx (at0 clr comb short LT)
theorem rng_at {n i : Nat} {x : PV} (h : (rng 0 n)[i]? = some x) : i < n ∧ x = .int (i : Int) := by
  unfold rng at h
  rw [List.getElem?_map] at h
  by_cases w : i < n
  · rw [List.getElem?_range w] at h
    simp at h
    exact ⟨w, h.symm⟩
  · rw [List.getElem?_eq_none (by simpa using w)] at h
    simp at h
theorem rng_len (n : Nat) : (rng 0 n).length = n := by simp [rng]
abbrev rowsV (rs : List (List Int)) : List PV := rs.map fun r => .lst (nI r)
abbrev natsV (bs : List Nat) : List PV := bs.map fun (k : Nat) => PV.int (k : Int)
structure EqAt (st : Store) (o r b many : Nat) (sg : List PV) (X : LT) : Prop where
  ho : st[o]? = some (.ins "Equations" [("many", .int (many : Int)), ("signs", .lst sg), ("rows", .own r), ("basis", .own b)])
  hr : st[r]? = some (.lst (rowsV X.rows))
  hb : st[b]? = some (.lst (natsV X.basis))
theorem EqAt.ne {st o r b many sg X} (H : EqAt st o r b many sg X) : o ≠ r ∧ o ≠ b := by
  refine ⟨fun h => ?_, fun h => ?_⟩
  · have := H.ho; rw [h, H.hr] at this; simp at this
  · have := H.ho; rw [h, H.hb] at this; simp at this
theorem ixOwn {st : Store} {r : Nat} {xs : List PV} {j : Nat} {x : PV} (h : st[r]? = some (.lst xs)) (hx : xs[j]? = some x) : oIx (.own r) (.int (j : Int)) st = some x := by
  simp only [oIx, asS, asL, h]; exact atI_nat hx
theorem st_set {st : Store} {r k : Nat} {c d : Cell} (h : st[r]? = some c) : (st.set r d)[k]? = if k = r then some d else st[k]? := by
  have hr := (List.getElem?_eq_some_iff.mp h).1
  rw [List.getElem?_set]
  by_cases x : r = k
  · subst x; simp [hr]
  · simp [x, Ne.symm x]
end Lq
end
section
set_option Elab.async false
set_option linter.all false
set_option maxRecDepth 10000
set_option exponentiation.threshold 20000
namespace Lq
open PySem PySem.Spec PyProof.Rows L2
open Sx (at0 clr comb short LT)
theorem oLt_int (a b : Int) (s : Store) : oLt (.int a) (.int b) s = some (.bl (decide (a < b))) := rfl
end Lq
end
section
set_option Elab.async false
set_option linter.all false
set_option maxRecDepth 10000
set_option exponentiation.threshold 20000
namespace Lq
open PySem PySem.Spec PyProof.Rows L2
open Sx (at0 clr comb short LT)
def Keeps (ex : List Nat) (st s : Store) : Prop := st.length ≤ s.length ∧ ∀ i, i < st.length → i ∉ ex → s[i]? = st[i]?
theorem Keeps.refl (ex : List Nat) (st : Store) : Keeps ex st st := ⟨Nat.le_refl _, fun _ _ _ => rfl⟩
theorem Keeps.trans {ex : List Nat} {a b c : Store} (h : Keeps ex a b) (g : Keeps ex b c) : Keeps ex a c :=
  ⟨Nat.le_trans h.1 g.1, fun i hi hn => (g.2 i (Nat.lt_of_lt_of_le hi h.1) hn).trans (h.2 i hi hn)⟩
theorem Keeps.app (ex : List Nat) (st : Store) (cs : List Cell) : Keeps ex st (st ++ cs) := ⟨by simp, fun i hi _ => List.getElem?_append_left hi⟩
theorem Keeps.set {ex : List Nat} {st s : Store} (h : Keeps ex st s) {k : Nat} (hk : st.length ≤ k ∨ k ∈ ex) (c : Cell) : Keeps ex st (s.set k c) := by
  refine ⟨by rw [List.length_set]; exact h.1, fun i hi hn => ?_⟩
  rw [List.getElem?_set_ne (by
    intro e
    subst e
    rcases hk with a | a
    · omega
    · exact hn a), h.2 i hi hn]
theorem Keeps.eq {ex : List Nat} {st s : Store} {o r b many : Nat} {sg : List PV} {X : LT} (h : Keeps ex st s) (H : EqAt st o r b many sg X) (ho : o ∉ ex) (hr : r ∉ ex) (hb : b ∉ ex) : EqAt s o r b many sg X :=
  ⟨(h.2 o (List.getElem?_eq_some_iff.mp H.ho).1 ho).trans H.ho, (h.2 r (List.getElem?_eq_some_iff.mp H.hr).1 hr).trans H.hr, (h.2 b (List.getElem?_eq_some_iff.mp H.hb).1 hb).trans H.hb⟩
end Lq
end
section
set_option Elab.async false
set_option linter.all false
set_option maxRecDepth 10000
set_option exponentiation.threshold 20000
namespace Lq
open PySem PySem.Spec PyProof.Rows L2
open Sx (at0 clr comb short LT)
end Lq
end
section
set_option Elab.async false
set_option linter.all false
set_option maxRecDepth 10000
set_option exponentiation.threshold 20000
namespace Lq
open PySem PySem.Spec PyProof.Rows L2
open Sx (at0 clr comb short LT)
def CostV (lo : Nat) (s : Store) (cv : PV) (cs : List Int) : Prop := (∃ k, cv = .own k ∧ lo ≤ k ∧ s[k]? = some (.lst (nI cs))) ∨ cv = .lst (nI cs)
theorem CostV.ix {lo : Nat} {s : Store} {cv : PV} {cs : List Int} (h : CostV lo s cv cs) {j : Nat} (hj : j < cs.length) : oIx cv (.int (j : Int)) s = some (.int (at0 cs j)) := by
  rcases h with ⟨k, rfl, _, hk⟩ | rfl
  · refine ixOwn hk ?_
    rw [List.getElem?_map, List.getElem?_eq_getElem hj]
    simp [at0, hj]
  · exact ixL s hj
end Lq
end
section
set_option Elab.async false
set_option linter.all false
set_option maxRecDepth 10000
set_option exponentiation.threshold 20000
namespace Lq
open PySem PySem.Spec PyProof.Rows L2
open Sx (at0 clr comb short LT)
end Lq
end
section
set_option Elab.async false
set_option linter.all false
set_option maxRecDepth 10000
namespace Lq
open PySem PySem.Spec PyProof.Rows L2
def Ok {α : Type} (r : R α) (P : α → Store → Prop) : Prop := ∃ a s, r = .ok a s ∧ P a s
def Ex {α : Type} (r : R α) (c : Str) (P : Store → Prop) : Prop := ∃ s, r = .ex c s ∧ P s
section
variable {α β : Type} {r : R α} {k : α → Store → R β} {P Q : α → Store → Prop} {T : β → Store → Prop} {a : α} {s : Store}
theorem ok_ok : Ok (R.ok a s) P ↔ P a s := ⟨fun ⟨_, _, e, h⟩ => (by cases e; exact h), fun h => ⟨a, s, rfl, h⟩⟩
theorem ok_no : Ok (R.no : R α) P ↔ False := ⟨fun ⟨_, _, e, _⟩ => (by cases e), False.elim⟩
theorem ok_bind : Ok (r.bind k) T ↔ Ok r (fun a s => Ok (k a s) T) := by
  cases r with
  | ok a s => rw [b_ok, ok_ok]
  | ex c s => exact ⟨fun ⟨_, _, e, _⟩ => (by cases e), fun ⟨_, _, e, _⟩ => (by cases e)⟩
  | no => exact ⟨fun ⟨_, _, e, _⟩ => (by cases e), fun ⟨_, _, e, _⟩ => (by cases e)⟩
theorem Ok.mono (h : Ok r P) (f : ∀ a s, P a s → Q a s) : Ok r Q := let ⟨a, s, e, p⟩ := h; ⟨a, s, e, f a s p⟩
theorem Ok.of (e : r = .ok a s) (h : P a s) : Ok r P := ⟨a, s, e, h⟩
theorem Ok.eq (e : r = .ok a s) : Ok r P ↔ P a s := by rw [e]; exact ok_ok
theorem ok_noX : Ok (noX r) P ↔ Ok r P := by
  cases r with
  | ok a s => exact Iff.rfl
  | ex c s => exact ⟨fun ⟨_, _, e, _⟩ => (by cases e), fun ⟨_, _, e, _⟩ => (by cases e)⟩
  | no => exact Iff.rfl
theorem ok_ite {c : Prop} [Decidable c] {r' : R α} : Ok (if c then r else r') P ↔ (if c then Ok r P else Ok r' P) := by split <;> exact Iff.rfl
end
def Op (o : Option PV) (P : PV → Prop) : Prop := ∃ z, o = some z ∧ P z
theorem op_some {z : PV} {P : PV → Prop} : Op (some z) P ↔ P z := ⟨fun ⟨_, e, h⟩ => (by cases e; exact h), fun h => ⟨z, rfl, h⟩⟩
theorem op_none {P : PV → Prop} : Op none P ↔ False := ⟨fun ⟨_, e, _⟩ => (by cases e), False.elim⟩
theorem Op.of {o : Option PV} {z : PV} {P : PV → Prop} (e : o = some z) (h : P z) : Op o P := ⟨z, e, h⟩
def frzK (T : PV → Store → Prop) : PV → Store → Prop
  | .own k, s => (match s[k]? with
    | some (.lst xs) => T (.lst xs) (s.set k (.frz xs))
    | some (.frz xs) => T (.lst xs) s
    | _ => False)
  | .lst xs, s => T (.lst xs) s
  | .tup xs, s => T (.tup xs) s
  | _, _ => False
theorem frzK_own {T : PV → Store → Prop} {k : Nat} {s : Store} : frzK T (.own k) s ↔ (match s[k]? with
    | some (.lst xs) => T (.lst xs) (s.set k (.frz xs))
    | some (.frz xs) => T (.lst xs) s
    | _ => False) := Iff.rfl
theorem frzK_lst {T : PV → Store → Prop} {xs : List PV} {s : Store} : frzK T (.lst xs) s ↔ T (.lst xs) s := Iff.rfl
theorem frzK_tup {T : PV → Store → Prop} {xs : List PV} {s : Store} : frzK T (.tup xs) s ↔ T (.tup xs) s := Iff.rfl
def nxK (b : XS) (P : Fl → Store → Prop) : Fl → Store → Prop
  | .nx e, s => Ok (b e s) P
  | fl, s => P fl s
section
variable {env : Ev} {st s : Store} {P : Fl → Store → Prop} {T : PV → Store → Prop} {B : Bool → Store → Prop} {L : List PV → Store → Prop} {a b : XS} {f g h : XE} {c d : Ev → Store → R Bool} {al : XL}
theorem nxK_nx {e : Ev} : nxK b P (.nx e) s ↔ Ok (b e s) P := Iff.rfl
theorem nxK_rt {v : PV} : nxK b P (.rt v) s ↔ P (.rt v) s := Iff.rfl
theorem ok_seq : Ok (sSeq a b env st) P ↔ Ok (a env st) (nxK b P) := by
  rw [sSeq, ok_bind]
  constructor
  · exact fun h => h.mono fun fl s h => by cases fl <;> first | exact h | exact (ok_ok (P := P)).mp h
  · exact fun h => h.mono fun fl s h => by cases fl <;> first | exact h | exact (ok_ok (P := P)).mpr h
theorem ok_nil : Ok (sNil env st) P ↔ P (.nx env) st := ok_ok
theorem ok_set {i : Nat} : Ok (sSet i f env st) P ↔ Ok (f env st) fun v s => P (.nx (env.set i (some v))) s := by
  rw [sSet, ok_bind]; simp only [ok_ok]
theorem ok_asg {t : PV → Ev → Store → R Ev} : Ok (sAsg f t env st) P ↔ Ok (f env st) fun v s => Ok (t v env s) fun e s2 => P (.nx e) s2 := by
  rw [sAsg, ok_bind]; simp only [ok_bind, ok_ok]
theorem ok_drop : Ok (sDrop f env st) P ↔ Ok (f env st) fun _ s => P (.nx env) s := by rw [sDrop, ok_bind]; simp only [ok_ok]
theorem ok_ret : Ok (sRet f env st) P ↔ Ok (f env st) fun v s => P (.rt v) s := by rw [sRet, ok_bind]; simp only [ok_ok]
theorem ok_if : Ok (sIf c a b env st) P ↔ Ok (c env st) fun k s => if k = true then Ok (a env s) P else Ok (b env s) P := by
  rw [sIf, ok_bind]; simp only [ok_ite]
theorem ok_par {i j : Nat} : Ok (sPar i j al env st) P ↔ Ok (al env st) fun vs s => match vs with | [v, w] => P (.nx ((env.set i (some v)).set j (some w))) s | _ => False := by
  rw [sPar, ok_bind]
  constructor <;> exact fun h => h.mono fun vs s h => by
    match vs, h with
    | [v, w], h => first | exact ok_ok.mp h | exact ok_ok.mpr h
theorem ok_par3 {i j l : Nat} : Ok (sPar3 i j l al env st) P ↔ Ok (al env st) fun vs s => match vs with | [v, w, u] => P (.nx (((env.set i (some v)).set j (some w)).set l (some u))) s | _ => False := by
  rw [sPar3, ok_bind]
  constructor <;> exact fun h => h.mono fun vs s h => by
    match vs, h with
    | [v, w, u], h => first | exact ok_ok.mp h | exact ok_ok.mpr h
theorem ok_retF : Ok (Lq.ret r) T ↔ Ok r fun fl s => match fl with | .rt v => T v s | .nx _ => T .non s | _ => False := by
  rw [Lq.ret, ok_bind]
  constructor <;> exact fun h => h.mono fun fl s h => by
    cases fl <;> first | exact ok_ok.mp h | exact ok_ok.mpr h | exact (ok_no.mp h) | exact h.elim
theorem ok_var {i : Nat} : Ok (eVar i env st) T ↔ ∃ v, env[i]? = some (some v) ∧ T v st := by
  unfold eVar
  constructor
  · intro h
    split at h
    · rename_i v e; exact ⟨v, e, ok_ok.mp h⟩
    · exact (ok_no.mp h).elim
  · rintro ⟨v, e, h⟩
    rw [e]; exact ok_ok.mpr h
theorem ok_C {v : PV} : Ok (eC v env st) T ↔ T v st := ok_ok
theorem ok_bin {o : PV → PV → Store → Option PV} : Ok (eBin o f g env st) T ↔ Ok (f env st) fun x s1 => Ok (g env s1) fun y s2 => Op (o x y s2) fun z => T z s2 := by
  rw [eBin, ok_bind]
  constructor <;> exact fun h => h.mono fun x s1 h => by
    rw [ok_bind] at *
    exact h.mono fun y s2 h => by cases e : o x y s2 <;> simp only [e, op_some, op_none, ok_ok, ok_no] at h ⊢ <;> exact h
theorem ok_un {o : PV → Option PV} : Ok (eUn o f env st) T ↔ Ok (f env st) fun x s1 => Op (o x) fun z => T z s1 := by
  rw [eUn, ok_bind]
  constructor <;> exact fun h => h.mono fun x s1 h => by cases e : o x <;> simp only [e, op_some, op_none, ok_ok, ok_no] at h ⊢ <;> exact h
theorem ok_aNil : Ok (aNil env st) L ↔ L [] st := ok_ok
theorem ok_aCons : Ok (aCons f al env st) L ↔ Ok (f env st) fun x s1 => Ok (al env s1) fun xs s2 => L (x :: xs) s2 := by
  rw [aCons, ok_bind]; simp only [ok_bind, ok_ok]
theorem ok_tup : Ok (eTup al env st) T ↔ Ok (al env st) fun xs s => xs.length ≤ sizeLine ∧ T (.tup xs) s := by
  rw [eTup, ok_bind]
  constructor <;> exact fun h => h.mono fun xs s h => by
    first
      | (split at h
         · exact ⟨by assumption, ok_ok.mp h⟩
         · exact (ok_no.mp h).elim)
      | (rw [if_pos h.1]; exact ok_ok.mpr h.2)
theorem ok_disp : Ok (fDisp al env st) L ↔ Ok (al env st) fun xs s => xs.length ≤ sizeLine ∧ L xs s := by
  rw [fDisp, ok_bind]
  constructor <;> exact fun h => h.mono fun xs s h => by
    first
      | (split at h
         · exact ⟨by assumption, ok_ok.mp h⟩
         · exact (ok_no.mp h).elim)
      | (rw [if_pos h.1]; exact ok_ok.mpr h.2)
theorem ok_fz : Ok (eFz al env st) T ↔ Ok (al env st) fun xs s => T (.lst xs) s := by rw [eFz, ok_bind]; simp only [ok_ok]
theorem ok_ow : Ok (eOw al env st) T ↔ Ok (al env st) fun xs s => T (.own s.length) (s ++ [.lst xs]) := by rw [eOw, ok_bind]; simp only [ok_ok]
theorem ok_call {n : Nat} {fn : Fn} : Ok (eCall n fn al env st) T ↔ Ok (al env st) fun xs s => xs.length = n ∧ Ok (fn xs s) T := by
  rw [eCall, ok_bind]
  constructor <;> exact fun h => h.mono fun xs s h => by
    first
      | (split at h
         · exact ⟨by assumption, h⟩
         · exact (ok_no.mp h).elim)
      | (rw [if_pos h.1]; exact h.2)
theorem ok_cb {o : List PV → Store → Option PV} : Ok (eCB o al env st) T ↔ Ok (al env st) fun xs s => Op (o xs s) fun z => T z s := by
  rw [eCB, ok_bind]
  constructor <;> exact fun h => h.mono fun xs s1 h => by cases e : o xs s1 <;> simp only [e, op_some, op_none, ok_ok, ok_no] at h ⊢ <;> exact h
theorem ok_toB {r : R PV} : Ok (toB r) B ↔ Ok r fun v s => match v with | .bl b => B b s | _ => False := by
  rw [toB, ok_bind]
  constructor <;> exact fun h => h.mono fun v s h => by
    cases v <;> first | exact ok_ok.mp h | exact ok_ok.mpr h | exact (ok_no.mp h) | exact h.elim
theorem ok_tE : Ok (tE f env st) B ↔ Ok (f env st) fun v s => match v with | .bl b => B b s | _ => False := ok_toB
theorem ok_tAnd : Ok (tAndF c d env st) B ↔ Ok (c env st) fun k s => if k = true then Ok (d env s) B else B false s := by
  rw [tAndF, ok_bind]; simp only [ok_ite, ok_ok]
theorem ok_tOr : Ok (tOrF c d env st) B ↔ Ok (c env st) fun k s => if k = true then B true s else Ok (d env s) B := by
  rw [tOrF, ok_bind]; simp only [ok_ite, ok_ok]
theorem ok_tNot : Ok (tNotF c env st) B ↔ Ok (c env st) fun k s => B (!k) s := by rw [tNotF, ok_bind]; simp only [ok_ok]
theorem ok_eIf : Ok (eIf c f g env st) T ↔ Ok (c env st) fun k s => if k = true then Ok (f env s) T else Ok (g env s) T := by
  rw [eIf, ok_bind]; simp only [ok_ite]
theorem ok_eAnd : Ok (eAnd f g env st) T ↔ Ok (f env st) fun v s => match v with | .bl b => if b = true then Ok (g env s) T else T (.bl false) s | _ => False := by
  rw [eAnd, ok_bind]
  constructor <;> exact fun h => h.mono fun v s h => by
    cases v with
    | bl b => cases b <;> first | exact h | exact ok_ok.mp h | exact ok_ok.mpr h
    | _ => first | exact ok_no.mp h | exact h.elim
theorem ok_eOr : Ok (eOr f g env st) T ↔ Ok (f env st) fun v s => match v with | .bl b => if b = true then T (.bl true) s else Ok (g env s) T | _ => False := by
  rw [eOr, ok_bind]
  constructor <;> exact fun h => h.mono fun v s h => by
    cases v with
    | bl b => cases b <;> first | exact h | exact ok_ok.mp h | exact ok_ok.mpr h
    | _ => first | exact ok_no.mp h | exact h.elim
theorem ok_eNot : Ok (eNot f env st) T ↔ Ok (f env st) fun v s => match v with | .bl b => T (.bl (!b)) s | _ => False := by
  rw [eNot, ok_bind]
  constructor <;> exact fun h => h.mono fun v s h => by
    cases v <;> first | exact ok_ok.mp h | exact ok_ok.mpr h | exact (ok_no.mp h) | exact h.elim
theorem ok_chain {o o' : PV → PV → Store → Option PV} : Ok (eChain o o' f g h env st) T ↔ Ok (f env st) fun x s1 => Ok (g env s1) fun y s2 => Op (o x y s2) fun z => match z with
    | .bl b => if b = true then Ok (h env s2) fun w s3 => Op (o' y w s3) fun u => T u s3 else T (.bl false) s2
    | _ => False := by
  rw [eChain, ok_bind]
  constructor <;> exact fun q => q.mono fun x s1 q => by
    rw [ok_bind] at *
    exact q.mono fun y s2 q => by
      cases e : o x y s2 with
      | none => simp only [e] at q; first | exact (ok_no.mp q).elim | exact (by obtain ⟨_, e, _⟩ := q; cases e)
      | some z =>
        simp only [e, op_some] at q ⊢
        cases z with
        | bl b =>
          cases b
          · first | exact ok_ok.mp q | exact ok_ok.mpr q
          · simp only [if_true, ok_bind] at q ⊢
            exact q.mono fun w s3 q => by cases e2 : o' y w s3 <;> simp only [e2, op_some, op_none, ok_ok, ok_no] at q ⊢ <;> exact q
        | _ => first | exact (ok_no.mp q).elim | exact q.elim
theorem ok_iVal : Ok (iVal f env st) L ↔ Ok (f env st) fun p s => ∃ xs, asV s p = some xs ∧ L xs s := by
  rw [iVal, ok_bind]
  constructor <;> exact fun h => h.mono fun p s h => by
    first
      | (split at h
         · rename_i xs e; exact ⟨xs, e, ok_ok.mp h⟩
         · exact (ok_no.mp h).elim)
      | (obtain ⟨xs, e, h⟩ := h; rw [e]; exact ok_ok.mpr h)
theorem ok_range1 : Ok (iRange1 al env st) L ↔ Ok (al env st) fun vs s => match vs with | [.int j] => (okR j = true ∧ j.toNat ≤ sizeLine) ∧ L (rng 0 j.toNat) s | _ => False := by
  rw [iRange1, ok_bind]
  constructor <;> exact fun h => h.mono fun vs s h => by
    split at h
    · first
      | (split at h
         · exact ⟨by assumption, ok_ok.mp h⟩
         · exact (ok_no.mp h).elim)
      | (simp only [if_pos h.1]; exact ok_ok.mpr h.2)
    · first | exact (ok_no.mp h).elim | exact h.elim
theorem ok_range2 : Ok (iRange2 al env st) L ↔ Ok (al env st) fun vs s => match vs with | [.int i, .int j] => (okR i = true ∧ okR j = true ∧ (j - i).toNat ≤ sizeLine) ∧ L (rng i (j - i).toNat) s | _ => False := by
  rw [iRange2, ok_bind]
  constructor <;> exact fun h => h.mono fun vs s h => by
    split at h
    · first
      | (split at h
         · exact ⟨by assumption, ok_ok.mp h⟩
         · exact (ok_no.mp h).elim)
      | (simp only [if_pos h.1]; exact ok_ok.mpr h.2)
    · first | exact (ok_no.mp h).elim | exact h.elim
theorem ok_for {ft : PV → Ev → Store → R Ev} {gl : XL} : Ok (sFor gl ft a env st) P ↔ Ok (gl env st) fun xs s => Ok (loopV ft a xs env s) P := by rw [sFor, ok_bind]
theorem ok_gNm {i : Nat} {p : PV} {E : Ev → Store → Prop} : Ok (gNm i p env st) E ↔ E (env.set i (some p)) st := ok_ok
theorem ok_gTp {n : Nat} {gs : List PV → Ev → Store → R Ev} {xs : List PV} {E : Ev → Store → Prop} : Ok (gTp n gs (.tup xs) env st) E ↔ xs.length = n ∧ Ok (gs xs env st) E := by
  simp only [gTp]
  by_cases w : xs.length = n
  · rw [if_pos w]; exact ⟨fun h => ⟨w, h⟩, fun h => h.2⟩
  · rw [if_neg w]; exact ⟨fun h => (ok_no.mp h).elim, fun h => absurd h.1 w⟩
theorem ok_gsNil {E : Ev → Store → Prop} : Ok (gsNil [] env st) E ↔ E env st := ok_ok
theorem ok_gsCons {g : PV → Ev → Store → R Ev} {gs : List PV → Ev → Store → R Ev} {x : PV} {xs : List PV} {E : Ev → Store → Prop} : Ok (gsCons g gs (x :: xs) env st) E ↔ Ok (g x env st) fun e s => Ok (gs xs e s) E := by
  simp only [gsCons, ok_bind]
theorem ok_frz : Ok (eFrz f env st) T ↔ Ok (f env st) (frzK T) := by
  rw [eFrz, ok_bind]
  constructor <;> exact fun h => h.mono fun v s h => by
    cases v with
    | own k =>
      simp only [frzK] at h ⊢
      cases e : s[k]? with
      | none => simp only [e, ok_no] at h
      | some c => cases c <;> simp only [e, ok_ok, ok_no] at h ⊢ <;> exact h
    | lst xs => simp only [frzK, ok_ok] at h ⊢; exact h
    | tup xs => simp only [frzK, ok_ok] at h ⊢; exact h
    | _ => simp only [frzK, ok_no] at h
theorem ok_isi {b : Kd} : Ok (eIsi b f env st) T ↔ Ok (f env st) fun p s => ∃ k, kdOf s p = some k ∧ T (.bl (k.isa b)) s := by
  rw [eIsi, ok_bind]
  constructor <;> exact fun h => h.mono fun p s h => by
    first
      | (split at h
         · rename_i xs e; exact ⟨xs, e, ok_ok.mp h⟩
         · exact (ok_no.mp h).elim)
      | (obtain ⟨xs, e, h⟩ := h; rw [e]; exact ok_ok.mpr h)
theorem ok_pNone {O : Option Int → Store → Prop} : Ok (pNone env st) O ↔ O none st := ok_ok
theorem ok_pSome {O : Option Int → Store → Prop} : Ok (pSome f env st) O ↔ Ok (f env st) fun v s => match v with | .int i => O (some i) s | _ => False := by
  rw [pSome, ok_bind]
  constructor <;> exact fun h => h.mono fun v s h => by
    cases v <;> first | exact ok_ok.mp h | exact ok_ok.mpr h | exact (ok_no.mp h) | exact h.elim
theorem ok_cut {lo hi : XO} : Ok (eCut f lo hi env st) T ↔ Ok (f env st) fun x s1 => Ok (lo env s1) fun l s2 => Ok (hi env s2) fun u s3 => Op (oCut x l u s3) fun z => T z s3 := by
  rw [eCut, ok_bind]
  constructor <;> exact fun h => h.mono fun x s1 h => by
    rw [ok_bind] at *
    exact h.mono fun l s2 h => by
      rw [ok_bind] at *
      exact h.mono fun u s3 h => by cases e : oCut x l u s3 <;> simp only [e, op_some, op_none, ok_ok, ok_no] at h ⊢ <;> exact h
theorem ok_sm {go : Str → PV → Store → Option PV} : Ok (eSm go f g env st) T ↔ Ok (f env st) fun v s => match v with | .str z => Ok (g env s) fun y s2 => Op (go z y s2) fun w => T w s2 | _ => False := by
  rw [eSm, ok_bind]
  constructor <;> exact fun h => h.mono fun v s h => by
    cases v with
    | str z =>
      simp only [ok_bind] at h ⊢
      exact h.mono fun y s2 h => by cases e : go z y s2 <;> simp only [e, op_some, op_none, ok_ok, ok_no] at h ⊢ <;> exact h
    | _ => first | exact ok_no.mp h | exact h.elim
theorem ok_sorted : Ok (fSorted f env st) L ↔ Ok (f env st) fun p s => ∃ xs, asL s p = some xs ∧ srtOk xs = true ∧ L (psort xs) s := by
  rw [fSorted, ok_bind]
  constructor <;> exact fun h => h.mono fun p s h => by
    first
      | (split at h
         · rename_i xs e
           split at h
           · exact ⟨xs, e, by assumption, ok_ok.mp h⟩
           · exact (ok_no.mp h).elim
         · exact (ok_no.mp h).elim)
      | (obtain ⟨xs, e, q, h⟩ := h; simp only [e, if_pos q]; exact ok_ok.mpr h)
theorem ok_fList : Ok (fList f env st) L ↔ Ok (f env st) fun p s => ∃ xs, asS s p = some xs ∧ L xs s := by
  rw [fList, ok_bind]
  constructor <;> exact fun h => h.mono fun p s h => by
    first
      | (split at h
         · rename_i xs e; exact ⟨xs, e, ok_ok.mp h⟩
         · exact (ok_no.mp h).elim)
      | (obtain ⟨xs, e, h⟩ := h; rw [e]; exact ok_ok.mpr h)
theorem ok_fAdd : Ok (fAdd f g env st) L ↔ Ok (f env st) fun x s1 => Ok (g env s1) fun y s2 => ∃ xs ys, asM s2 x = some xs ∧ asM s2 y = some ys ∧ xs.length + ys.length ≤ sizeLine ∧ L (xs ++ ys) s2 := by
  rw [fAdd, ok_bind]
  constructor <;> exact fun h => h.mono fun x s1 h => by
    rw [ok_bind] at *
    exact h.mono fun y s2 h => by
      first
        | (split at h
           · rename_i xs ys e1 e2
             split at h
             · exact ⟨xs, ys, e1, e2, by assumption, ok_ok.mp h⟩
             · exact (ok_no.mp h).elim
           · exact (ok_no.mp h).elim)
        | (obtain ⟨xs, ys, e1, e2, q, h⟩ := h; simp only [e1, e2, if_pos q]; exact ok_ok.mpr h)
end
end Lq
end
section
set_option Elab.async false
set_option linter.all false
set_option maxRecDepth 10000
namespace Lq
open PySem PySem.Spec PyProof.Rows L2
section
variable {env : Ev} {st s : Store} {P : Fl → Store → Prop} {T : PV → Store → Prop} {B : Bool → Store → Prop} {L : List PV → Store → Prop} {a b : XS} {f g h : XE} {c d : Ev → Store → R Bool} {al : XL}
theorem ok_fMul : Ok (fMul f g env st) L ↔ Ok (f env st) fun x s1 => Ok (g env s1) fun y s2 => ∃ xs k, asM s2 x = some xs ∧ y = .int k ∧ (-(2 ^ 63) ≤ k ∧ k < 2 ^ 63 ∧ xs.length * k.toNat ≤ sizeLine) ∧ L (List.replicate k.toNat xs).flatten s2 := by
  rw [fMul, ok_bind]
  constructor <;> exact fun h => h.mono fun x s1 h => by
    rw [ok_bind] at *
    exact h.mono fun y s2 h => by
      first
        | (split at h
           · rename_i xs k e1
             split at h
             · exact ⟨xs, k, e1, rfl, by assumption, ok_ok.mp h⟩
             · exact (ok_no.mp h).elim
           · exact (ok_no.mp h).elim)
        | (obtain ⟨xs, k, e1, rfl, q, h⟩ := h; simp only [e1, if_pos q]; exact ok_ok.mpr h)
theorem ok_fld {x m : Str} : Ok (eFld x m f env st) T ↔ Ok (f env st) fun v s => ∃ k fs p, v = .own k ∧ s[k]? = some (.ins x fs) ∧ fs.lookup m = some p ∧ T p s := by
  rw [eFld, ok_bind]
  refine ⟨fun h => h.mono fun v s h => ?_, fun h => h.mono fun v s h => ?_⟩
  · cases v with
    | own k =>
      simp only at h
      cases e1 : s[k]? with
      | none => simp only [e1, ok_no] at h
      | some c =>
        cases c with
        | ins y fs =>
          simp only [e1] at h
          by_cases q : y = x
          · subst q
            simp only [if_true] at h
            cases e3 : fs.lookup m with
            | none => simp only [e3, ok_no] at h
            | some p => simp only [e3, ok_ok] at h; exact ⟨k, fs, p, rfl, e1, e3, h⟩
          · simp only [if_neg q, ok_no] at h
        | _ => simp only [e1, ok_no] at h
    | _ => exact (ok_no.mp h).elim
  · obtain ⟨k, fs, p, rfl, e1, e2, h⟩ := h
    simp only [e1, e2, if_true]
    exact ok_ok.mpr h
theorem ok_fldS {x m : Str} : Ok (sFldS x m f g env st) P ↔ Ok (g env st) fun p s1 => Ok (f env s1) fun v s => ∃ k fs, v = .own k ∧ s[k]? = some (.ins x fs) ∧ fs.length < 900 ∧ P (.nx env) (s.set k (.ins x (putP m p fs))) := by
  rw [sFldS, ok_bind]
  refine ⟨fun h0 => h0.mono fun p s1 h1 => ?_, fun h0 => h0.mono fun p s1 h1 => ?_⟩
  · rw [ok_bind] at h1
    refine h1.mono fun v s h => ?_
    clear h1 h0
    cases v with
    | own k =>
      simp only at h
      cases e1 : s[k]? with
      | none => simp only [e1, ok_no] at h
      | some c =>
        cases c with
        | ins y fs =>
          simp only [e1] at h
          by_cases q : y = x ∧ fs.length < 900
          · simp only [if_pos q, ok_ok] at h
            obtain ⟨rfl, q⟩ := q
            exact ⟨k, fs, rfl, e1, q, h⟩
          · simp only [if_neg q, ok_no] at h
        | _ => simp only [e1, ok_no] at h
    | _ => exact (ok_no.mp h).elim
  · rw [ok_bind]
    refine h1.mono fun v s h => ?_
    obtain ⟨k, fs, rfl, e1, e2, h⟩ := h
    simp only [e1, e2, true_and, if_true]
    exact ok_ok.mpr h
theorem ok_meth {x m : Str} {n : Nat} {fn : Fn} : Ok (eMeth x m n fn f al env st) T ↔ Ok (f env st) fun v s => ∃ k fs, v = .own k ∧ s[k]? = some (.ins x fs) ∧ fs.lookup m = none ∧ Ok (al env s) fun vs s2 => vs.length + 1 = n ∧ Ok (fn (.own k :: vs) s2) T := by
  rw [eMeth, ok_bind]
  refine ⟨fun h0 => h0.mono fun v s h => ?_, fun h0 => h0.mono fun v s h => ?_⟩
  · clear h0
    cases v with
    | own k =>
      simp only at h
      cases e1 : s[k]? with
      | none => simp only [e1, ok_no] at h
      | some c =>
        cases c with
        | ins y fs =>
          simp only [e1] at h
          by_cases q : y = x ∧ fs.lookup m = none
          · simp only [if_pos q, ok_bind] at h
            obtain ⟨rfl, q⟩ := q
            refine ⟨k, fs, rfl, e1, q, h.mono fun vs s2 h => ?_⟩
            split at h
            · exact ⟨by assumption, h⟩
            · exact (ok_no.mp h).elim
          · simp only [if_neg q, ok_no] at h
        | _ => simp only [e1, ok_no] at h
    | _ => exact (ok_no.mp h).elim
  · obtain ⟨k, fs, rfl, e1, e2, h⟩ := h
    simp only [e1, e2, true_and, if_true]
    rw [ok_bind]
    exact h.mono fun vs s2 h => by rw [if_pos h.1]; exact h.2
theorem ok_make {x : Str} {n : Nat} {fn : Fn} : Ok (eMake x n fn al env st) T ↔ Ok (al env st) fun vs s => vs.length + 1 = n ∧ Ok (fn (.own s.length :: vs) (s ++ [.ins x []])) fun v s2 => v = .non ∧ T (.own s.length) s2 := by
  rw [eMake, ok_bind]
  constructor <;> exact fun h => h.mono fun vs s h => by
    first
      | (split at h
         · refine ⟨by assumption, ?_⟩
           rw [ok_bind] at h
           exact h.mono fun v s2 h => by
             split at h
             · exact ⟨rfl, ok_ok.mp h⟩
             · exact (ok_no.mp h).elim
         · exact (ok_no.mp h).elim)
      | (rw [if_pos h.1, ok_bind]
         exact h.2.mono fun v s2 h => by obtain ⟨rfl, h⟩ := h; exact ok_ok.mpr h)
theorem ok_lm {go : List PV → List PV → Store → Option (PV × List PV)} : Ok (eLm go f al env st) T ↔ Ok (f env st) fun v s => ∃ k zs, v = .own k ∧ s[k]? = some (.lst zs) ∧ Ok (al env s) fun ys s2 => ∃ xs w xs', s2[k]? = some (.lst xs) ∧ go xs ys s2 = some (w, xs') ∧ T w (s2.set k (.lst xs')) := by
  rw [eLm, ok_bind]
  constructor <;> exact fun h => h.mono fun v s h => by
    first
      | (split at h
         · split at h
           · rename_i k _ zs e1
             refine ⟨k, zs, rfl, e1, ?_⟩
             rw [ok_bind] at h
             exact h.mono fun ys s2 h => by
               split at h
               · split at h
                 · rename_i xs e2 _ w xs' e3
                   exact ⟨xs, w, xs', e2, e3, ok_ok.mp h⟩
                 · exact (ok_no.mp h).elim
               · exact (ok_no.mp h).elim
           · exact (ok_no.mp h).elim
         · exact (ok_no.mp h).elim)
      | (obtain ⟨k, zs, rfl, e1, h⟩ := h
         simp only [e1]
         rw [ok_bind]
         exact h.mono fun ys s2 h => by
           obtain ⟨xs, w, xs', e2, e3, h⟩ := h
           simp only [e2, e3]
           exact ok_ok.mpr h)
theorem ok_pop : Ok (ePop f env st) T ↔ Ok (f env st) fun v s => ∃ k xs y, v = .own k ∧ s[k]? = some (.lst xs) ∧ xs[xs.length - 1]? = some y ∧ T y (s.set k (.lst xs.dropLast)) := by
  rw [ePop, ok_bind]
  constructor <;> exact fun h => h.mono fun v s h => by
    first
      | (split at h
         · split at h
           · split at h
             · rename_i k _ xs e1 _ y e2
               exact ⟨k, xs, y, rfl, e1, e2, ok_ok.mp h⟩
             · exact (ok_no.mp h).elim
           · exact (ok_no.mp h).elim
         · exact (ok_no.mp h).elim)
      | (obtain ⟨k, xs, y, rfl, e1, e2, h⟩ := h
         simp only [e1, e2]
         exact ok_ok.mpr h)
theorem ok_lenO {x : Str} {fn : Fn} : Ok (eLenO x fn f env st) T ↔ Ok (f env st) fun v s => ∃ k fs, v = .own k ∧ s[k]? = some (.ins x fs) ∧ Ok (fn [.own k] s) fun r s2 => ∃ m, r = .int m ∧ (0 ≤ m ∧ m < 2 ^ 63) ∧ T (.int m) s2 := by
  rw [eLenO, ok_bind]
  refine ⟨fun h => h.mono fun v s h => ?_, fun h => h.mono fun v s h => ?_⟩
  · skip
    cases v with
    | own k =>
      simp only at h
      cases e1 : s[k]? with
      | none => simp only [e1, ok_no] at h
      | some c =>
        cases c with
        | ins y fs =>
          simp only [e1] at h
          by_cases q : y = x
          · subst q
            simp only [if_true, ok_bind] at h
            refine ⟨k, fs, rfl, e1, h.mono fun r s2 h => ?_⟩
            cases r with
            | int m =>
              simp only at h
              split at h
              · exact ⟨_, rfl, by assumption, ok_ok.mp h⟩
              · exact (ok_no.mp h).elim
            | _ => exact (ok_no.mp h).elim
          · simp only [if_neg q, ok_no] at h
        | _ => simp only [e1, ok_no] at h
    | _ => exact (ok_no.mp h).elim
  · obtain ⟨k, fs, rfl, e1, h⟩ := h
    simp only [e1, if_true]
    rw [ok_bind]
    exact h.mono fun r s2 h => by
      obtain ⟨m, rfl, e2, h⟩ := h
      simp only [if_pos e2]
      exact ok_ok.mpr h
theorem ok_enumT : Ok (iEnumT al env st) L ↔ Ok (al env st) fun vs s => ∃ p, vs = [p] ∧ ∃ xs, asV s p = some xs ∧ L (nums xs) s := by
  rw [iEnumT, ok_bind]
  constructor <;> exact fun h => h.mono fun vs s h => by
    first
      | (split at h
         · exact ⟨_, rfl, _, rfl, ok_ok.mp h⟩
         · split at h
           · rename_i p hp _ xs e
             refine ⟨_, rfl, xs, ?_, ok_ok.mp h⟩
             cases p <;> first | exact e | (simp [asVL] at e)
           · exact (ok_no.mp h).elim
         · exact (ok_no.mp h).elim)
      | (obtain ⟨p, rfl, xs, e, h⟩ := h
         cases p <;> first
           | (cases e; exact ok_ok.mpr h)
           | (simp only [asV] at e; cases e; exact ok_ok.mpr h)
           | (simp only [asVL, e]; exact ok_ok.mpr h))
theorem ok_compV {env : Ev} {ft : PV → Ev → Store → R Ev} {tt : Ev → Store → R Bool} {fe : XE} (J : Nat → List PV → Store → Prop) : ∀ (xs : List PV) (q : Nat) (pre : List PV) (st : Store) {L : List PV → Store → Prop},
    (∀ i x, xs[i]? = some x → ∀ pre st, J (q + i) pre st → Ok (ft x env st) fun e s => Ok (tt e s) fun k s' => if k = true then Ok (fe e s') fun v s2 => J (q + i + 1) (pre ++ [v]) s2 else J (q + i + 1) pre s') →
    J q pre st → (∀ all st, J (q + xs.length) (pre ++ all) st → L all st) → Ok (compV ft tt fe env xs st) L
  | [], q, pre, st, L, _, h, k => by rw [compV]; exact ok_ok.mpr (k [] st (by rw [List.append_nil]; exact h))
  | x :: r, q, pre, st, L, H, h, k => by
    rw [compV, ok_bind]
    refine (H 0 x rfl pre st h).mono fun e s1 hh => ?_
    rw [ok_bind]
    refine hh.mono fun b s2 hh => ?_
    have H' : ∀ i y, r[i]? = some y → ∀ pre st, J (q + 1 + i) pre st → Ok (ft y env st) fun e s => Ok (tt e s) fun k s' => if k = true then Ok (fe e s') fun v s2 => J (q + 1 + i + 1) (pre ++ [v]) s2 else J (q + 1 + i + 1) pre s' := fun i y hy pre st hp => by
      have := H (i + 1) y (by simpa using hy) pre st (by rw [show q + (i + 1) = q + 1 + i by omega]; exact hp)
      rw [show q + (i + 1) + 1 = q + 1 + i + 1 by omega] at this
      exact this
    have len : q + (x :: r).length = q + 1 + r.length := by rw [List.length_cons]; omega
    cases b with
    | true =>
      rw [if_pos rfl] at hh ⊢
      rw [ok_bind]
      refine hh.mono fun v s3 hh => ?_
      rw [ok_bind]
      exact ok_compV J r (q + 1) (pre ++ [v]) s3 H' hh fun all st h3 => ok_ok.mpr (k (v :: all) st (by rw [len]; simpa using h3))
    | false =>
      rw [if_neg (by decide)] at hh ⊢
      exact ok_compV J r (q + 1) pre s2 H' hh fun all st h3 => k all st (by rw [len]; exact h3)
theorem ok_comp {gl : XL} {ft : PV → Ev → Store → R Ev} {tt : Ev → Store → R Bool} {fe : XE} {vs : List Nat} : Ok (fComp gl ft tt fe vs env st) L ↔ Ok (gl env st) fun xs s => Ok (compV ft tt fe (wipeE env vs) xs s) L := by
  rw [fComp, ok_bind]; simp only [ok_noX]
theorem ok_map {ft : PV → Ev → Store → R Ev} {fe : XE} (F : PV → PV) {xs : List PV} {st : Store} (h : ∀ x, x ∈ xs → Ok (ft x env st) fun e s => Ok (fe e s) fun v s2 => v = F x ∧ s2 = st) (k : L (xs.map F) st) : Ok (compV ft (fun _ st => .ok true st) fe env xs st) L := by
  refine ok_compV (fun i pre s => pre = (xs.take i).map F ∧ s = st) xs 0 [] st (fun i x hx pre s hp => ?_) ⟨rfl, rfl⟩ fun all s hp => ?_
  · obtain ⟨rfl, rfl⟩ := hp
    refine (h x (List.mem_of_getElem? hx)).mono fun e s1 h1 => ok_ok.mpr ?_
    rw [if_pos rfl]
    refine h1.mono fun v s2 h2 => ?_
    obtain ⟨rfl, rfl⟩ := h2
    rw [Nat.zero_add, List.take_add_one, hx, List.map_append]
    exact ⟨rfl, rfl⟩
  · obtain ⟨e, rfl⟩ := hp
    rw [Nat.zero_add, List.take_length, List.nil_append] at e
    rw [e]; exact k
end
theorem szl : sizeLine = 16777216 := by decide
def wkA := And.intro @ok_seq (And.intro @ok_nil (And.intro @ok_set (And.intro @ok_asg (And.intro @ok_drop (And.intro @ok_ret (And.intro @ok_if (And.intro @ok_par (And.intro @ok_par3 (And.intro @ok_var (And.intro @ok_C (And.intro @ok_bin (And.intro @ok_un (And.intro @ok_aNil (And.intro @ok_aCons (And.intro @ok_tup (And.intro @ok_disp (And.intro @ok_fz (And.intro @ok_ow (And.intro @ok_call (And.intro @ok_cb (And.intro @ok_tE (And.intro @ok_tAnd (And.intro @ok_tOr (And.intro @ok_tNot (And.intro @ok_eIf (And.intro @ok_eAnd (And.intro @ok_eOr (And.intro @ok_eNot (And.intro @ok_chain (And.intro @ok_iVal (And.intro @ok_range1 (And.intro @ok_range2 (And.intro @ok_for (And.intro @ok_gNm (And.intro @ok_gTp (And.intro @ok_gsNil (And.intro @ok_gsCons (And.intro @ok_isi (And.intro @ok_frz (And.intro @frzK_own (And.intro @frzK_lst (And.intro @frzK_tup (And.intro @ok_pNone (And.intro @ok_pSome (And.intro @ok_cut (And.intro @ok_sm (And.intro @ok_sorted (And.intro @ok_fList (And.intro @ok_fAdd (And.intro @ok_fMul (And.intro @ok_fld (And.intro @ok_fldS (And.intro @ok_meth (And.intro @ok_make (And.intro @ok_lm (And.intro @ok_pop (And.intro @ok_lenO (And.intro @ok_enumT (And.intro @ok_comp (And.intro @ok_bind (And.intro @ok_ok (And.intro @ok_no (And.intro @op_some (And.intro @nxK_rt (And.intro @v0 (And.intro @vS (And.intro szl (And.intro @oNe_int (And.intro @oEq_int (And.intro @oAdd_int (And.intro @oSub_int (And.intro @oGt_int (And.intro @oGe_int (And.intro @oLt_int (And.intro @PV.own.injEq (@PV.int.injEq))))))))))))))))))))))))))))))))))))))))))))))))))))))))))))))))))))))))))))
end Lq
end
section
set_option Elab.async false
set_option linter.all false
set_option maxRecDepth 10000
set_option exponentiation.threshold 20000
namespace Lq
open PySem PySem.Spec PyProof.Rows L2
open Sx (at0 clr comb short LT)
theorem oIxT_nat {xs : List PV} {j : Nat} {x : PV} (st : Store) (h : xs[j]? = some x) : oIx (.tup xs) (.int (j : Int)) st = some x := by
  simp only [oIx, asS]; exact atI_nat h
def low (a b : Int) : Int × Int := (a / ((Nat.gcd a.natAbs b.natAbs : Nat) : Int), b / ((Nat.gcd a.natAbs b.natAbs : Nat) : Int))
end Lq
end
section
set_option Elab.async false
set_option linter.all false
set_option maxRecDepth 10000
set_option exponentiation.threshold 20000
namespace Lq
open PySem PySem.Spec PyProof.Rows L2
open Sx (at0 clr comb short LT sm si)
def rt (p : Int × Int) : Rat := (p.1 : Rat) / (p.2 : Rat)
end Lq
end
section
set_option Elab.async false
set_option linter.all false
set_option maxRecDepth 10000
set_option exponentiation.threshold 20000
namespace Lq
open PySem PySem.Spec PyProof.Rows L2
open Sx (at0 clr comb short LT sm si)
end Lq
end
section
set_option Elab.async false
set_option linter.all false
namespace Sx
theorem si_comm (f : Nat → Nat → Int) (n : Nat) : ∀ m : Nat, si m (fun i => si n (f i)) = si n (fun j => si m (fun i => f i j))
  | 0 => by simp only [si]; rw [si_zero (f := fun _ => 0) fun _ _ => rfl]
  | m + 1 => by
    simp only [si]
    rw [si_comm f n m, ← si_add]
theorem si_nonneg {f : Nat → Int} : ∀ {n : Nat}, (∀ j, j < n → 0 ≤ f j) → 0 ≤ si n f
  | 0, _ => Int.le_refl _
  | n + 1, h => by
    have a := si_nonneg (n := n) fun j hj => h j (by omega)
    have b := h n (by omega)
    rw [si]; omega
theorem si_pos {f : Nat → Int} : ∀ {n : Nat}, (∀ j, j < n → 0 ≤ f j) → ∀ k, k < n → 0 < f k → 0 < si n f
  | n + 1, h, k, hk, p => by
    rw [si]
    by_cases e : k = n
    · subst e
      have a := si_nonneg (n := k) fun j hj => h j (by omega)
      omega
    · have a := si_pos (n := n) (fun j hj => h j (by omega)) k (by omega) p
      have b := h n (by omega)
      omega
theorem si_neg (f : Nat → Int) (n : Nat) : si n (fun j => - f j) = - si n f := by
  have := si_mul (-1) f n
  rw [si_congr (g := fun j => -1 * f j) fun j _ => by omega, this]; omega
end Sx
namespace Lq
open Sx (si si_congr si_zero si_add si_mul si_comm si_nonneg si_pos si_neg)
inductive Sg where
  | gt | ge | eq
  deriving DecidableEq
structure Cp where
  one : List Nat
  sg : Sg
  other : List Nat
  deriving DecidableEq
instance : Inhabited Cp := ⟨⟨[], .eq, []⟩⟩
def inc (l : List Nat) (t : Nat) : Int := if t ∈ l then 1 else 0
def Cp.c (c : Cp) (t : Nat) : Int := inc c.one t - inc c.other t
def exc (told : List Cp) (v : Nat → Int) (t : Nat) : Int := si told.length (fun i => v i * (told.getD i default).c t)
end Lq
end
section
set_option Elab.async false
set_option linter.all false
namespace Lq
open Sx (si si_congr si_zero si_add si_mul si_comm si_nonneg si_pos si_neg at0 sm)
def thC (k t : Nat) : List Int := (List.range k).map (fun o => if o = t then (1 : Int) else 0) ++ [1]
def val : List Cp → List Int → List Int × List Int
  | [], ws => ([], ws)
  | c :: r, ws => if c.sg = .eq then ((at0 ws 0 - at0 ws 1) :: (val r (ws.drop 2)).1, (val r (ws.drop 2)).2) else (at0 ws 0 :: (val r (ws.drop 1)).1, (val r (ws.drop 1)).2)
end Lq
end
section
set_option Elab.async false
set_option linter.all false
set_option maxRecDepth 10000
set_option exponentiation.threshold 20000
namespace Lq
open PySem PySem.Spec PyProof.Rows L2
open Sx (at0 clr comb short LT sm si)
def Sg.s : Sg → Str
  | .gt => ">"
  | .ge => ">="
  | .eq => "="
def lotV (l : List Nat) : PV := .tup (natsV l)
def cpV (c : Cp) : PV := .tup [lotV c.one, .str c.sg.s, lotV c.other]
def toldV (t : List Cp) : PV := .tup (t.map cpV)
end Lq
end
section
set_option Elab.async false
set_option linter.all false
set_option maxRecDepth 10000
set_option exponentiation.threshold 20000
namespace Lq
open PySem PySem.Spec PyProof.Rows L2
open Sx (at0 clr comb short LT sm si)
end Lq
end
section
set_option Elab.async false
set_option linter.all false
set_option maxRecDepth 10000
set_option exponentiation.threshold 20000
namespace Lq
open PySem PySem.Spec PyProof.Rows L2
open Sx (at0 clr comb short LT sm si)
theorem keeps_get {ex : List Nat} {st s : Store} (h : Keeps ex st s) {i : Nat} {c : Cell} (e : st[i]? = some c) (hn : i ∉ ex) : s[i]? = some c :=
  (h.2 i (List.getElem?_eq_some_iff.mp e).1 hn).trans e
end Lq
end
section
set_option Elab.async false
set_option linter.all false
set_option maxRecDepth 10000
set_option exponentiation.threshold 20000
namespace Lq
open PySem PySem.Spec PyProof.Rows L2
open Sx (at0 clr comb short LT sm si)
end Lq
end
section
set_option Elab.async false
set_option linter.all false
set_option maxRecDepth 10000
set_option exponentiation.threshold 20000
namespace Lq
open PySem PySem.Spec PyProof.Rows L2
open Sx (at0 clr comb short LT sm si)
end Lq
end
section
set_option Elab.async false
set_option linter.all false
set_option maxRecDepth 10000
namespace Lq
open PySem PySem.Spec PyProof.Rows L2
open Sx (at0)
def Tn (ns : List Int) (n : Nat) (s : Store) : Prop := ∃ c, s[0]? = some (.lst c) ∧ Town ns n c
theorem Tn.mono {ns : List Int} {n m : Nat} {s : Store} (h : Tn ns n s) (l : n ≤ m) : Tn ns m s := by
  obtain ⟨c, a, x, ls, b, d, e, f⟩ := h
  exact ⟨c, a, x, ls, b, d, e, by omega⟩
theorem Tn.keeps {ns : List Int} {n : Nat} {s s' : Store} (h : Tn ns n s) (k : Keeps [] s s') : Tn ns n s' := by
  obtain ⟨c, a, t⟩ := h
  exact ⟨c, keeps_get k a (by simp), t⟩
theorem atI_int {α : Type} {xs : List α} {d : Int} (h0 : 0 ≤ d) (h1 : d < xs.length) : ∃ x, x ∈ xs ∧ xs[d.toNat]? = some x ∧ atI xs d = some x := by
  obtain ⟨i, rfl⟩ : ∃ i : Nat, d = (i : Int) := ⟨d.toNat, by omega⟩
  have hi : i < xs.length := by omega
  exact ⟨xs[i], List.getElem_mem hi, by simp [hi], atI_nat (List.getElem?_eq_getElem hi)⟩
def Lot (k : Nat) (l : List Nat) : Prop := l.Pairwise (· < ·) ∧ ∀ x, x ∈ l → x < k
instance (k : Nat) (l : List Nat) : Decidable (Lot k l) := by unfold Lot; exact inferInstance
structure ValidC (k : Nat) (c : Cp) : Prop where
  one : Lot k c.one
  other : Lot k c.other
def Valid (k : Nat) (told : List Cp) : Prop := ∀ c, c ∈ told → ValidC k c
def lotsL : Nat → List (List Nat)
  | 1 => [[], [0]]
  | 2 => [[], [0], [0, 1], [1]]
  | 3 => [[], [0], [0, 1], [0, 1, 2], [0, 2], [1], [1, 2], [2]]
  | 4 => [[], [0], [0, 1], [0, 1, 2], [0, 1, 2, 3], [0, 1, 3], [0, 2], [0, 2, 3], [0, 3], [1], [1, 2], [1, 2, 3], [1, 3], [2], [2, 3], [3]]
  | 5 => [[], [0], [0, 1], [0, 1, 2], [0, 1, 2, 3], [0, 1, 2, 3, 4], [0, 1, 2, 4], [0, 1, 3], [0, 1, 3, 4], [0, 1, 4], [0, 2], [0, 2, 3], [0, 2, 3, 4], [0, 2, 4], [0, 3], [0, 3, 4], [0, 4], [1], [1, 2], [1, 2, 3], [1, 2, 3, 4], [1, 2, 4], [1, 3], [1, 3, 4], [1, 4], [2], [2, 3], [2, 3, 4], [2, 4], [3], [3, 4], [4]]
  | _ => []
theorem five {k : Nat} (h1 : 1 ≤ k) (h5 : k ≤ 5) : k = 1 ∨ k = 2 ∨ k = 3 ∨ k = 4 ∨ k = 5 := by omega
theorem lots_sp {k : Nat} (h1 : 1 ≤ k) (h5 : k ≤ 5) (st : Store) : p__law_lots [.int (k : Int)] st = .ok (.lst ((lotsL k).map lotV)) st := by
  rcases five h1 h5 with rfl | rfl | rfl | rfl | rfl <;> kernel_rfl
theorem lots_lot {k : Nat} (h1 : 1 ≤ k) (h5 : k ≤ 5) : ∀ l, l ∈ lotsL k → Lot k l := by
  rcases five h1 h5 with rfl | rfl | rfl | rfl | rfl <;> decide
theorem lots_len {k : Nat} (h1 : 1 ≤ k) (h5 : k ≤ 5) : 0 < (lotsL k).length ∧ (lotsL k).length ≤ 32 := by
  rcases five h1 h5 with rfl | rfl | rfl | rfl | rfl <;> decide
def lw (ws : List Int) (l : List Nat) : Int := (l.map (at0 ws)).sum
theorem asInts_nI : ∀ ns : List Int, asInts (nI ns) = some ns
  | [] => rfl
  | n :: ns => by
    show asInts (PV.int n :: nI ns) = _
    simp only [asInts, asInts_nI ns]; rfl
theorem weight_sp {ws : List Int} {l : List Nat} (h : ∀ x, x ∈ l → x < ws.length) (st : Store) : p__law_weight [.tup (nI ws), lotV l] st = .ok (.int (lw ws l)) st := by
  have : Ok (p__law_weight [.tup (nI ws), lotV l] st) fun v s => v = .int (lw ws l) ∧ s = st := by
    (unfold p__law_weight runF; rw [ok_retF]; simp only [env0, List.map_cons, List.map_nil, List.length_cons, List.length_nil, Nat.reduceAdd, Nat.reduceSub, List.reduceReplicate, List.cons_append, List.nil_append])
    simp only [wkA, List.set_cons_zero, List.set_cons_succ, Option.some.injEq, exists_eq_left', exists_eq_left, List.length_cons, List.length_nil, Nat.reduceAdd, Nat.reduceLeDiff, true_and, and_true, if_true, Bool.not_true, Bool.not_false, Bool.false_eq_true, if_false, decide_eq_true_eq, List.cons.injEq, ↓reduceIte]
    refine ⟨natsV l, rfl, ?_⟩
    refine ok_map (fun x => match x with | .int j => .int (at0 ws j.toNat) | x => x) (fun x hx => ?_) ?_
    · obtain ⟨t, ht, rfl⟩ := List.mem_map.mp hx
      simp only [wipeE]
      simp only [wkA, List.set_cons_zero, List.set_cons_succ, Option.some.injEq, exists_eq_left', exists_eq_left, List.length_cons, List.length_nil, Nat.reduceAdd, Nat.reduceLeDiff, true_and, and_true, if_true, Bool.not_true, Bool.not_false, Bool.false_eq_true, if_false, decide_eq_true_eq, List.cons.injEq, ↓reduceIte]
      refine Op.of (z := .int (at0 ws t)) ?_ (by simp)
      have := h t ht
      exact oIxT_nat st (by rw [List.getElem?_map, List.getElem?_eq_getElem this]; simp [at0, this])
    · have e : (natsV l).map (fun x => match x with | .int j => .int (at0 ws j.toNat) | x => x) = nI (l.map (at0 ws)) := by
        show List.map _ (List.map _ _) = List.map _ (List.map _ _)
        rw [List.map_map, List.map_map]; rfl
      rw [e]
      refine Op.of (z := .int (lw ws l)) (by simp only [oSum, asL]; rw [asInts_nI]; rfl) ⟨rfl, rfl⟩
  obtain ⟨v, s, e, rfl, rfl⟩ := this
  exact e
theorem sg_ne_gt (g : Sg) (s : Store) : oNe (.str g.s) (.str ">") s = some (.bl (!decide (g = .gt))) := by cases g <;> kernel_rfl
theorem sg_ne_eq (g : Sg) (s : Store) : oNe (.str g.s) (.str "=") s = some (.bl (!decide (g = .eq))) := by cases g <;> kernel_rfl
end Lq
end
section
set_option Elab.async false
set_option linter.all false
set_option maxRecDepth 10000
namespace Lq
open PySem PySem.Spec PyProof.Rows L2
open Sx (at0)
structure KL (s s' : Store) : Prop where
  k : Keeps [0] s s'
  l : s'.length = s.length
theorem KL.trans {a b c : Store} (h : KL a b) (g : KL b c) : KL a c := ⟨h.k.trans g.k, g.l.trans h.l⟩
theorem draw_sq {ns : List Int} {n : Nat} {s : Store} {lim : Int} (T : Tn ns n s) (hn : n < 900000) (hns : ns.length ≤ 63) (h0 : 0 < lim) (h1 : lim < 1000000) :
    Ok (drawF [.scr ns, .own 0, .int lim] s) fun v s' => ∃ d, v = .int d ∧ 0 ≤ d ∧ d < lim ∧ Tn ns (n + 1) s' ∧ KL s s' := by
  obtain ⟨c, a, t⟩ := T
  obtain ⟨d, c', e, d0, d1, t'⟩ := draw_ok a t (by omega) hns h0 h1
  rw [e, ok_ok]
  exact ⟨d, rfl, d0, d1, ⟨c', by rw [st_set a, if_pos rfl], t'⟩, ⟨(Keeps.refl _ _).set (.inr (by simp)) _, by simp⟩⟩
theorem pick_sq {ns : List Int} {n : Nat} {s : Store} {xs : List PV} (T : Tn ns n s) (hn : n < 900000) (hns : ns.length ≤ 63) (h0 : 0 < xs.length) (h1 : xs.length < 1000) :
    Ok (p__law_pick [.scr ns, .own 0, .lst xs] s) fun v s' => v ∈ xs ∧ Tn ns (n + 1) s' ∧ KL s s' := by
  (unfold p__law_pick runF; rw [ok_retF]; simp only [env0, List.map_cons, List.map_nil, List.length_cons, List.length_nil, Nat.reduceAdd, Nat.reduceSub, List.reduceReplicate, List.cons_append, List.nil_append])
  simp only [wkA, List.set_cons_zero, List.set_cons_succ, Option.some.injEq, exists_eq_left', exists_eq_left, List.length_cons, List.length_nil, Nat.reduceAdd, Nat.reduceLeDiff, true_and, and_true, if_true, Bool.not_true, Bool.not_false, Bool.false_eq_true, if_false, decide_eq_true_eq, List.cons.injEq, ↓reduceIte]
  refine Op.of (z := .int (xs.length : Int)) (by simp [oLen, asS, asL]) ?_
  refine (draw_sq T hn hns (by omega) (by omega)).mono fun v s' h => ?_
  obtain ⟨d, rfl, d0, d1, T', K'⟩ := h
  obtain ⟨x, hx, _, e⟩ := atI_int d0 d1
  exact Op.of (z := x) (by simp only [oIx, asS, asL]; exact e) ⟨hx, T', K'⟩
theorem scale_sq {ns : List Int} {n k : Nat} {s : Store} (T : Tn ns n s) (hn : n < 800000) (hns : ns.length ≤ 63) (hk : k ≤ 10) :
    Ok (p__law_scale [.scr ns, .own 0, .int (k : Int)] s) fun v s' => ∃ ws : List Int, v = .tup (nI ws) ∧ ws.length = k ∧ (∀ w, w ∈ ws → 1 ≤ w ∧ w ≤ 9) ∧ Tn ns (n + 11) s' ∧ KL s s' := by
  have sz := szl
  (unfold p__law_scale runF; rw [ok_retF]; simp only [env0, List.map_cons, List.map_nil, List.length_cons, List.length_nil, Nat.reduceAdd, Nat.reduceSub, List.reduceReplicate, List.cons_append, List.nil_append])
  simp only [wkA, List.set_cons_zero, List.set_cons_succ, Option.some.injEq, exists_eq_left', exists_eq_left, List.length_cons, List.length_nil, Nat.reduceAdd, Nat.reduceLeDiff, true_and, and_true, if_true, Bool.not_true, Bool.not_false, Bool.false_eq_true, if_false, decide_eq_true_eq, List.cons.injEq, ↓reduceIte]
  refine (pick_sq T (by omega) hns (by simp) (by simp)).mono fun v s1 h => ?_
  obtain ⟨hv, T1, K1⟩ := h
  obtain ⟨m, rfl, m0, m9⟩ : ∃ m : Int, v = .int m ∧ 2 ≤ m ∧ m ≤ 9 := by
    simp only [List.mem_cons, List.not_mem_nil, or_false] at hv
    rcases hv with rfl | rfl | rfl
    · exact ⟨2, rfl, by decide, by decide⟩
    · exact ⟨4, rfl, by decide, by decide⟩
    · exact ⟨9, rfl, by decide, by decide⟩
  rw [nxK_nx]
  simp only [wkA, List.set_cons_zero, List.set_cons_succ, Option.some.injEq, exists_eq_left', exists_eq_left, List.length_cons, List.length_nil, Nat.reduceAdd, Nat.reduceLeDiff, true_and, and_true, if_true, Bool.not_true, Bool.not_false, Bool.false_eq_true, if_false, decide_eq_true_eq, List.cons.injEq, ↓reduceIte]
  refine ⟨⟨by unfold okR; simp; omega, by simp; omega⟩, ?_⟩
  have rn : (k : Int).toNat = k := by simp
  rw [rn]
  refine ok_compV (fun i pre s' => ∃ ws : List Int, pre = nI ws ∧ ws.length = i ∧ (∀ w, w ∈ ws → 1 ≤ w ∧ w ≤ 9) ∧ Tn ns (n + 1 + i) s' ∧ KL s s') _ 0 [] _ ?_ ⟨[], rfl, rfl, by simp, T1, K1⟩ ?_
  · rintro i x hx pre s' ⟨ws, rfl, wl, wb, T', K'⟩
    obtain ⟨hi, rfl⟩ := rng_at hx
    simp only [wipeE]
    simp only [wkA, List.set_cons_zero, List.set_cons_succ, Option.some.injEq, exists_eq_left', exists_eq_left, List.length_cons, List.length_nil, Nat.reduceAdd, Nat.reduceLeDiff, true_and, and_true, if_true, Bool.not_true, Bool.not_false, Bool.false_eq_true, if_false, decide_eq_true_eq, List.cons.injEq, ↓reduceIte]
    rw [Nat.zero_add] at wl T' ⊢
    refine (draw_sq T' (by omega) hns (by omega) (by omega)).mono fun v s2 h => ?_
    obtain ⟨d, rfl, d0, d1, T2, K2⟩ := h
    simp only [wkA, List.set_cons_zero, List.set_cons_succ, Option.some.injEq, exists_eq_left', exists_eq_left, List.length_cons, List.length_nil, Nat.reduceAdd, Nat.reduceLeDiff, true_and, and_true, if_true, Bool.not_true, Bool.not_false, Bool.false_eq_true, if_false, decide_eq_true_eq, List.cons.injEq, ↓reduceIte]
    refine ⟨ws ++ [1 + d], by simp, by simp [wl], fun w hw => ?_, T2.mono (by omega), K'.trans K2⟩
    rcases List.mem_append.mp hw with hw | hw
    · exact wb w hw
    · simp at hw; omega
  · rintro all s' ⟨ws, e, wl, wb, T', K'⟩
    rw [List.nil_append] at e
    subst e
    rw [Nat.zero_add, rng_len] at wl T'
    exact Op.of (z := .tup (nI ws)) rfl ⟨ws, rfl, wl, wb, T'.mono (by omega), K'⟩
theorem comparison_sq {ns : List Int} {n k : Nat} {s : Store} {ws : List Int} (T : Tn ns n s) (hn : n < 800000) (hns : ns.length ≤ 63) (h1 : 1 ≤ k) (h5 : k ≤ 5) (wl : ws.length = k) :
    Ok (p__law_comparison [.scr ns, .own 0, .int (k : Int), .tup (nI ws)] s) fun v s' => ∃ c, v = cpV c ∧ ValidC k c ∧ Tn ns (n + 4) s' ∧ KL s s' := by
  have ll := lots_len h1 h5
  (unfold p__law_comparison runF; rw [ok_retF]; simp only [env0, List.map_cons, List.map_nil, List.length_cons, List.length_nil, Nat.reduceAdd, Nat.reduceSub, List.reduceReplicate, List.cons_append, List.nil_append])
  simp only [wkA, List.set_cons_zero, List.set_cons_succ, Option.some.injEq, exists_eq_left', exists_eq_left, List.length_cons, List.length_nil, Nat.reduceAdd, Nat.reduceLeDiff, true_and, and_true, if_true, Bool.not_true, Bool.not_false, Bool.false_eq_true, if_false, decide_eq_true_eq, List.cons.injEq, ↓reduceIte]
  rw [Ok.eq (lots_sp h1 h5 s)]
  rw [nxK_nx]
  simp only [wkA, List.set_cons_zero, List.set_cons_succ, Option.some.injEq, exists_eq_left', exists_eq_left, List.length_cons, List.length_nil, Nat.reduceAdd, Nat.reduceLeDiff, true_and, and_true, if_true, Bool.not_true, Bool.not_false, Bool.false_eq_true, if_false, decide_eq_true_eq, List.cons.injEq, ↓reduceIte]
  refine (pick_sq T (by omega) hns (by simp; omega) (by simp; omega)).mono fun v1 s1 h => ?_
  obtain ⟨hv1, T1, K1⟩ := h
  refine (pick_sq T1 (by omega) hns (by simp; omega) (by simp; omega)).mono fun v2 s2 h => ?_
  obtain ⟨hv2, T2, K2⟩ := h
  obtain ⟨a, ha, rfl⟩ := List.mem_map.mp hv1
  obtain ⟨b, hb, rfl⟩ := List.mem_map.mp hv2
  have la := lots_lot h1 h5 a ha
  have lb := lots_lot h1 h5 b hb
  rw [nxK_nx]
  simp only [wkA, List.set_cons_zero, List.set_cons_succ, Option.some.injEq, exists_eq_left', exists_eq_left, List.length_cons, List.length_nil, Nat.reduceAdd, Nat.reduceLeDiff, true_and, and_true, if_true, Bool.not_true, Bool.not_false, Bool.false_eq_true, if_false, decide_eq_true_eq, List.cons.injEq, ↓reduceIte]
  refine (pick_sq T2 (by omega) hns (by simp) (by simp)).mono fun v3 s3 h => ?_
  obtain ⟨hv3, T3, K3⟩ := h
  obtain ⟨g, rfl⟩ : ∃ g : Sg, v3 = .str g.s := by
    simp only [List.mem_cons, List.not_mem_nil, or_false] at hv3
    rcases hv3 with rfl | rfl | rfl | rfl
    · exact ⟨.gt, rfl⟩
    · exact ⟨.gt, rfl⟩
    · exact ⟨.ge, rfl⟩
    · exact ⟨.eq, rfl⟩
  rw [nxK_nx]
  simp only [wkA, List.set_cons_zero, List.set_cons_succ, Option.some.injEq, exists_eq_left', exists_eq_left, List.length_cons, List.length_nil, Nat.reduceAdd, Nat.reduceLeDiff, true_and, and_true, if_true, Bool.not_true, Bool.not_false, Bool.false_eq_true, if_false, decide_eq_true_eq, List.cons.injEq, ↓reduceIte]
  refine (draw_sq T3 (by omega) hns (by omega) (by omega)).mono fun v4 s4 h => ?_
  obtain ⟨d, rfl, d0, d1, T4, K4⟩ := h
  have KK := ((K1.trans K2).trans K3).trans K4
  simp only [wkA, List.set_cons_zero, List.set_cons_succ, Option.some.injEq, exists_eq_left', exists_eq_left, List.length_cons, List.length_nil, Nat.reduceAdd, Nat.reduceLeDiff, true_and, and_true, if_true, Bool.not_true, Bool.not_false, Bool.false_eq_true, if_false, decide_eq_true_eq, List.cons.injEq, ↓reduceIte]
  split
  · rw [Ok.eq (weight_sp (fun x hx => by rw [wl]; exact la.2 x hx) s4), Ok.eq (weight_sp (fun x hx => by rw [wl]; exact lb.2 x hx) s4)]
    simp only [wkA, List.set_cons_zero, List.set_cons_succ, Option.some.injEq, exists_eq_left', exists_eq_left, List.length_cons, List.length_nil, Nat.reduceAdd, Nat.reduceLeDiff, true_and, and_true, if_true, Bool.not_true, Bool.not_false, Bool.false_eq_true, if_false, decide_eq_true_eq, List.cons.injEq, ↓reduceIte]
    rw [nxK_nx]
    simp only [wkA, List.set_cons_zero, List.set_cons_succ, Option.some.injEq, exists_eq_left', exists_eq_left, List.length_cons, List.length_nil, Nat.reduceAdd, Nat.reduceLeDiff, true_and, and_true, if_true, Bool.not_true, Bool.not_false, Bool.false_eq_true, if_false, decide_eq_true_eq, List.cons.injEq, ↓reduceIte]
    have fin : ∀ (x y : List Nat), Lot k x → Lot k y → Ok ((eIf (tOrF (tAndF (tE (eBin oEq (eVar 8) (eC (PV.int 0)))) (tE (eBin oNe (eVar 7) (eC (PV.str ">"))))) (tAndF (tE (eBin oNe (eVar 8) (eC (PV.int 0)))) (tE (eBin oNe (eVar 7) (eC (PV.str "=")))))) (eVar 7) (eC (PV.str ">="))) [some (.scr ns), some (.own 0), some (.int (k : Int)), some (.tup (nI ws)), some (.lst ((lotsL k).map lotV)), some (lotV x), some (lotV y), some (.str g.s), some (.int (lw ws a - lw ws b))] s4) fun v s => (∃ g' : Sg, v = .str g'.s) ∧ s = s4 := fun x y lx ly => by
      simp only [wkA, List.set_cons_zero, List.set_cons_succ, Option.some.injEq, exists_eq_left', exists_eq_left, List.length_cons, List.length_nil, Nat.reduceAdd, Nat.reduceLeDiff, true_and, and_true, if_true, Bool.not_true, Bool.not_false, Bool.false_eq_true, if_false, decide_eq_true_eq, List.cons.injEq, ↓reduceIte]
      by_cases z : lw ws a - lw ws b = 0
      · simp only [z, BEq.rfl, if_true]
        refine Op.of (sg_ne_gt g s4) ?_
        cases g <;> simp <;> first | exact ⟨.gt, rfl⟩ | exact ⟨.ge, rfl⟩ | exact ⟨.eq, rfl⟩
      · have z' : (lw ws a - lw ws b == 0) = false := by simpa using z
        simp only [z', Bool.not_false, if_true, Bool.false_eq_true, if_false]
        refine Op.of (sg_ne_eq g s4) ?_
        cases g <;> simp <;> first | exact ⟨.gt, rfl⟩ | exact ⟨.ge, rfl⟩ | exact ⟨.eq, rfl⟩
    split
    · rw [nxK_nx]
      rw [ok_set]
      refine (fin a b la lb).mono fun v s5 h => ?_
      obtain ⟨⟨g', rfl⟩, rfl⟩ := h
      rw [nxK_nx]
      simp only [wkA, List.set_cons_zero, List.set_cons_succ, Option.some.injEq, exists_eq_left', exists_eq_left, List.length_cons, List.length_nil, Nat.reduceAdd, Nat.reduceLeDiff, true_and, and_true, if_true, Bool.not_true, Bool.not_false, Bool.false_eq_true, if_false, decide_eq_true_eq, List.cons.injEq, ↓reduceIte]
      exact ⟨⟨a, g', b⟩, rfl, ⟨la, lb⟩, T4, KK⟩
    · rw [nxK_nx]
      rw [ok_set]
      refine (fin b a lb la).mono fun v s5 h => ?_
      obtain ⟨⟨g', rfl⟩, rfl⟩ := h
      rw [nxK_nx]
      simp only [wkA, List.set_cons_zero, List.set_cons_succ, Option.some.injEq, exists_eq_left', exists_eq_left, List.length_cons, List.length_nil, Nat.reduceAdd, Nat.reduceLeDiff, true_and, and_true, if_true, Bool.not_true, Bool.not_false, Bool.false_eq_true, if_false, decide_eq_true_eq, List.cons.injEq, ↓reduceIte]
      exact ⟨⟨b, g', a⟩, rfl, ⟨lb, la⟩, T4, KK⟩
  · rw [nxK_nx]
    simp only [wkA, List.set_cons_zero, List.set_cons_succ, Option.some.injEq, exists_eq_left', exists_eq_left, List.length_cons, List.length_nil, Nat.reduceAdd, Nat.reduceLeDiff, true_and, and_true, if_true, Bool.not_true, Bool.not_false, Bool.false_eq_true, if_false, decide_eq_true_eq, List.cons.injEq, ↓reduceIte]
    exact ⟨⟨a, g, b⟩, rfl, ⟨la, lb⟩, T4, KK⟩
theorem told_sq {ns : List Int} {n k : Nat} {s : Store} {most : Nat} (T : Tn ns n s) (hn : n < 700000) (hns : ns.length ≤ 63) (h1 : 1 ≤ k) (h5 : k ≤ 5) (hm : most ≤ 8) :
    Ok (p__law_told [.scr ns, .own 0, .int (k : Int), .int (most : Int)] s) fun v s' => ∃ told, v = toldV told ∧ told.length ≤ most ∧ Valid k told ∧ Tn ns (n + 60) s' ∧ KL s s' := by
  have sz := szl
  (unfold p__law_told runF; rw [ok_retF]; simp only [env0, List.map_cons, List.map_nil, List.length_cons, List.length_nil, Nat.reduceAdd, Nat.reduceSub, List.reduceReplicate, List.cons_append, List.nil_append])
  simp only [wkA, List.set_cons_zero, List.set_cons_succ, Option.some.injEq, exists_eq_left', exists_eq_left, List.length_cons, List.length_nil, Nat.reduceAdd, Nat.reduceLeDiff, true_and, and_true, if_true, Bool.not_true, Bool.not_false, Bool.false_eq_true, if_false, decide_eq_true_eq, List.cons.injEq, ↓reduceIte]
  refine (scale_sq T (by omega) hns (by omega)).mono fun v s1 h => ?_
  obtain ⟨ws, rfl, wl, wb, T1, K1⟩ := h
  rw [nxK_nx]
  simp only [wkA, List.set_cons_zero, List.set_cons_succ, Option.some.injEq, exists_eq_left', exists_eq_left, List.length_cons, List.length_nil, Nat.reduceAdd, Nat.reduceLeDiff, true_and, and_true, if_true, Bool.not_true, Bool.not_false, Bool.false_eq_true, if_false, decide_eq_true_eq, List.cons.injEq, ↓reduceIte]
  refine (draw_sq T1 (by omega) hns (by omega) (by omega)).mono fun v s2 h => ?_
  obtain ⟨d, rfl, d0, d1, T2, K2⟩ := h
  simp only [wkA, List.set_cons_zero, List.set_cons_succ, Option.some.injEq, exists_eq_left', exists_eq_left, List.length_cons, List.length_nil, Nat.reduceAdd, Nat.reduceLeDiff, true_and, and_true, if_true, Bool.not_true, Bool.not_false, Bool.false_eq_true, if_false, decide_eq_true_eq, List.cons.injEq, ↓reduceIte]
  refine ⟨⟨by unfold okR; simp; omega, by omega⟩, ?_⟩
  refine ok_compV (fun i pre s' => ∃ told, pre = told.map cpV ∧ told.length = i ∧ Valid k told ∧ Tn ns (n + 12 + 4 * i) s' ∧ KL s s') _ 0 [] _ ?_ ⟨[], rfl, rfl, fun c h => by simp at h, T2.mono (by omega), K1.trans K2⟩ ?_
  · rintro i x hx pre s' ⟨told, rfl, tl, tv, T', K'⟩
    obtain ⟨hi, rfl⟩ := rng_at hx
    simp only [wipeE]
    simp only [wkA, List.set_cons_zero, List.set_cons_succ, Option.some.injEq, exists_eq_left', exists_eq_left, List.length_cons, List.length_nil, Nat.reduceAdd, Nat.reduceLeDiff, true_and, and_true, if_true, Bool.not_true, Bool.not_false, Bool.false_eq_true, if_false, decide_eq_true_eq, List.cons.injEq, ↓reduceIte]
    rw [Nat.zero_add] at tl T' ⊢
    refine (comparison_sq T' (by omega) hns h1 h5 wl).mono fun v s3 h => ?_
    obtain ⟨c, rfl, vc, T3, K3⟩ := h
    refine ⟨told ++ [c], by simp, by simp [tl], fun c' h' => ?_, T3.mono (by omega), K'.trans K3⟩
    rcases List.mem_append.mp h' with h' | h'
    · exact tv c' h'
    · simp at h'; rw [h']; exact vc
  · rintro all s' ⟨told, e, tl, tv, T', K'⟩
    rw [List.nil_append] at e
    subst e
    rw [Nat.zero_add, rng_len] at tl T'
    exact Op.of (z := toldV told) rfl ⟨told, rfl, by omega, tv, T'.mono (by omega), K'⟩
end Lq
end
section
set_option Elab.async false
set_option linter.all false
set_option maxRecDepth 10000
namespace Lq
open PySem PySem.Spec PyProof.Rows L2
open Sx (at0 si)
theorem eqOk {r : R PV} {x : PV} {st : Store} (h : Ok r fun v s => v = x ∧ s = st) : r = .ok x st := by
  obtain ⟨v, s, e, rfl, rfl⟩ := h
  exact e
theorem between_sp (v lo hi : Int) (st : Store) : p_is_between [.int v, .int lo, .int hi] st = .ok (.bl (decide (lo ≤ v) && decide (v ≤ hi))) st := by
  apply eqOk
  (unfold p_is_between runF; rw [ok_retF]; simp only [env0, List.map_cons, List.map_nil, List.length_cons, List.length_nil, Nat.reduceAdd, Nat.reduceSub, List.reduceReplicate, List.cons_append, List.nil_append])
  simp only [wkA, List.set_cons_zero, List.set_cons_succ, Option.some.injEq, exists_eq_left', exists_eq_left, List.length_cons, List.length_nil, Nat.reduceAdd, Nat.reduceLeDiff, true_and, and_true, if_true, Bool.not_true, Bool.not_false, Bool.false_eq_true, if_false, decide_eq_true_eq, List.cons.injEq, ↓reduceIte]
  refine ⟨.int, rfl, ?_⟩
  have e1 : Kd.isa .int .int = true := rfl
  have e2 : Kd.isa .int .bl = false := rfl
  simp only [e1, if_true]
  refine ⟨.int, rfl, ?_⟩
  simp only [e2, Bool.not_false, if_true]
  refine Op.of (z := .bl (decide (lo ≤ v))) rfl ?_
  by_cases c : lo ≤ v
  · simp only [c, decide_true, if_true]
    exact Op.of (z := .bl (decide (v ≤ hi))) rfl (by simp)
  · simp [c]
theorem bools_all : ∀ bs : List Bool, asBools (bs.map PV.bl) = some bs
  | [] => rfl
  | b :: bs => by
    show asBools (PV.bl b :: bs.map PV.bl) = _
    simp only [asBools, bools_all bs]; rfl
theorem oAll_true {xs : List PV} (st : Store) (h : ∀ x, x ∈ xs → x = .bl true) : oAll [.lst xs] st = some (.bl true) := by
  have : xs = (List.replicate xs.length true).map PV.bl := by
    rw [List.map_replicate]
    exact List.eq_replicate_iff.mpr ⟨rfl, h⟩
  rw [this]
  simp only [oAll, asL, bools_all]
  simp
theorem things_sp {k : Nat} (h1 : 1 ≤ k) (h5 : k ≤ 5) (st : Store) : p_check_things [.int (k : Int)] st = .ok .non st := by
  apply eqOk
  (unfold p_check_things runF; rw [ok_retF]; simp only [env0, List.map_cons, List.map_nil, List.length_cons, List.length_nil, Nat.reduceAdd, Nat.reduceSub, List.reduceReplicate, List.cons_append, List.nil_append])
  simp only [wkA, List.set_cons_zero, List.set_cons_succ, Option.some.injEq, exists_eq_left', exists_eq_left, List.length_cons, List.length_nil, Nat.reduceAdd, Nat.reduceLeDiff, true_and, and_true, if_true, Bool.not_true, Bool.not_false, Bool.false_eq_true, if_false, decide_eq_true_eq, List.cons.injEq, ↓reduceIte]
  rw [Ok.eq (between_sp _ _ _ st)]
  have : (decide ((1 : Int) ≤ (k : Int)) && decide ((k : Int) ≤ 5)) = true := by simp; omega
  simp [this]
theorem found_lot_sp {k : Nat} {l : List Nat} (h : Lot k l) (hl : l.length ≤ 1000) (st : Store) : p_is_found_lot [.int (k : Int), lotV l] st = .ok (.bl true) st := by
  have sz := szl
  apply eqOk
  (unfold p_is_found_lot runF; rw [ok_retF]; simp only [env0, List.map_cons, List.map_nil, List.length_cons, List.length_nil, Nat.reduceAdd, Nat.reduceSub, List.reduceReplicate, List.cons_append, List.nil_append])
  unfold lotV
  simp only [wkA, List.set_cons_zero, List.set_cons_succ, Option.some.injEq, exists_eq_left', exists_eq_left, List.length_cons, List.length_nil, Nat.reduceAdd, Nat.reduceLeDiff, true_and, and_true, if_true, Bool.not_true, Bool.not_false, Bool.false_eq_true, if_false, decide_eq_true_eq, List.cons.injEq, ↓reduceIte]
  refine ⟨.tup, rfl, ?_⟩
  have e1 : Kd.isa .tup .tup = true := rfl
  simp only [e1, Bool.not_true, Bool.false_eq_true, if_false]
  refine ⟨_, rfl, ?_⟩
  refine ok_map (fun _ => .bl true) (fun x hx => ?_) ?_
  · obtain ⟨t, ht, rfl⟩ := List.mem_map.mp hx
    simp only [wipeE]
    simp only [wkA, List.set_cons_zero, List.set_cons_succ, Option.some.injEq, exists_eq_left', exists_eq_left, List.length_cons, List.length_nil, Nat.reduceAdd, Nat.reduceLeDiff, true_and, and_true, if_true, Bool.not_true, Bool.not_false, Bool.false_eq_true, if_false, decide_eq_true_eq, List.cons.injEq, ↓reduceIte]
    rw [Ok.eq (between_sp _ _ _ st)]
    have := h.2 t ht
    simp
    omega
  · refine Op.of (oAll_true st fun x hx => ?_) ?_
    · obtain ⟨y, _, rfl⟩ := List.mem_map.mp hx; rfl
    · simp only [Bool.not_true, Bool.false_eq_true, if_false]
      rw [nxK_nx]
      simp only [wkA, List.set_cons_zero, List.set_cons_succ, Option.some.injEq, exists_eq_left', exists_eq_left, List.length_cons, List.length_nil, Nat.reduceAdd, Nat.reduceLeDiff, true_and, and_true, if_true, Bool.not_true, Bool.not_false, Bool.false_eq_true, if_false, decide_eq_true_eq, List.cons.injEq, ↓reduceIte]
      refine Op.of (z := .int (l.length : Int)) (by simp [oLen, asS]) ?_
      simp only [oSub_int, op_some]
      refine ⟨⟨by unfold okR; simp; omega, by omega⟩, ?_⟩
      refine ok_map (fun _ => .bl true) (fun x hx => ?_) ?_
      · obtain ⟨i, hi⟩ := List.mem_iff_getElem?.mp hx
        obtain ⟨hi, rfl⟩ := rng_at hi
        simp only [wipeE]
        simp only [wkA, List.set_cons_zero, List.set_cons_succ, Option.some.injEq, exists_eq_left', exists_eq_left, List.length_cons, List.length_nil, Nat.reduceAdd, Nat.reduceLeDiff, true_and, and_true, if_true, Bool.not_true, Bool.not_false, Bool.false_eq_true, if_false, decide_eq_true_eq, List.cons.injEq, ↓reduceIte]
        have i1 : i < l.length := by omega
        have i2 : i + 1 < l.length := by omega
        refine Op.of (oIxT_nat st (x := .int (l[i] : Int)) (by simp [i1])) ?_
        have e : (i : Int) + 1 = ((i + 1 : Nat) : Int) := by omega
        rw [e]
        refine Op.of (oIxT_nat st (x := .int (l[i + 1] : Int)) (by simp [i2])) ?_
        have := List.pairwise_iff_getElem.mp h.1 i (i + 1) i1 i2 (by omega)
        simp only [oLt_int, op_some, and_true]
        simp
        omega
      · refine Op.of (oAll_true st fun x hx => ?_) (by simp)
        obtain ⟨y, _, rfl⟩ := List.mem_map.mp hx; rfl
theorem lot_len {k : Nat} {l : List Nat} (h : Lot k l) : l.length ≤ k := by
  have key : ∀ (l : List Nat) (k : Nat), l.Pairwise (· < ·) → (∀ x, x ∈ l → x < k) → ∀ b, (∀ x, x ∈ l → b ≤ x) → b + l.length ≤ k ∨ l = [] := by
    intro l
    induction l with
    | nil => intro k _ _ b _; right; rfl
    | cons a r ih =>
      intro k p lt b hb
      left
      obtain ⟨p1, p2⟩ := List.pairwise_cons.mp p
      have ha := lt a (by simp)
      have hba := hb a (by simp)
      rcases ih k p2 (fun x hx => lt x (by simp [hx])) (a + 1) (fun x hx => p1 x hx) with h | h
      · simp; omega
      · rw [h]; simp; omega
  rcases key l k h.1 h.2 0 (fun _ _ => Nat.zero_le _) with h | h
  · omega
  · rw [h]; simp
theorem signs_in (g : Sg) (st : Store) : oNin (.str g.s) (.tup [.str ">", .str ">=", .str "="]) st = some (.bl false) := by cases g <;> kernel_rfl
theorem is_comp_sp {k : Nat} {c : Cp} (h5 : k ≤ 5) (h : ValidC k c) (st : Store) : p_is_comparison [.int (k : Int), cpV c] st = .ok (.bl true) st := by
  have l1 := lot_len h.one
  have l2 := lot_len h.other
  apply eqOk
  (unfold p_is_comparison runF; rw [ok_retF]; simp only [env0, List.map_cons, List.map_nil, List.length_cons, List.length_nil, Nat.reduceAdd, Nat.reduceSub, List.reduceReplicate, List.cons_append, List.nil_append])
  unfold cpV
  simp only [wkA, List.set_cons_zero, List.set_cons_succ, Option.some.injEq, exists_eq_left', exists_eq_left, List.length_cons, List.length_nil, Nat.reduceAdd, Nat.reduceLeDiff, true_and, and_true, if_true, Bool.not_true, Bool.not_false, Bool.false_eq_true, if_false, decide_eq_true_eq, List.cons.injEq, ↓reduceIte]
  refine ⟨.tup, rfl, ?_⟩
  have e1 : Kd.isa .tup .tup = true := rfl
  simp only [e1, Bool.not_true, Bool.false_eq_true, if_false]
  refine Op.of (z := .int 3) (by simp [oLen, asS]) ?_
  simp only [oNe_int, op_some]
  simp only [BEq.rfl, Bool.not_true, Bool.false_eq_true, if_false]
  have i1 : oIx (.tup [lotV c.one, .str c.sg.s, lotV c.other]) (.int 1) st = some (.str c.sg.s) := oIxT_nat st (j := 1) rfl
  have i0 : oIx (.tup [lotV c.one, .str c.sg.s, lotV c.other]) (.int 0) st = some (lotV c.one) := oIxT_nat st (j := 0) rfl
  have i2 : oIx (.tup [lotV c.one, .str c.sg.s, lotV c.other]) (.int 2) st = some (lotV c.other) := oIxT_nat st (j := 2) rfl
  refine Op.of i1 ⟨.str, rfl, ?_⟩
  have e2 : Kd.isa .str .str = true := rfl
  simp only [e2, Bool.not_true, Bool.false_eq_true, if_false]
  refine Op.of i1 (Op.of (signs_in _ _) ?_)
  simp only [Bool.false_eq_true, if_false]
  rw [nxK_nx]
  simp only [wkA, List.set_cons_zero, List.set_cons_succ, Option.some.injEq, exists_eq_left', exists_eq_left, List.length_cons, List.length_nil, Nat.reduceAdd, Nat.reduceLeDiff, true_and, and_true, if_true, Bool.not_true, Bool.not_false, Bool.false_eq_true, if_false, decide_eq_true_eq, List.cons.injEq, ↓reduceIte]
  refine Op.of i0 ?_
  rw [Ok.eq (found_lot_sp h.one (by omega) st)]
  simp only [if_true]
  refine Op.of i2 ?_
  rw [Ok.eq (found_lot_sp h.other (by omega) st)]
  simp
theorem are_told_sp {k : Nat} {told : List Cp} (h5 : k ≤ 5) (h : Valid k told) (hl : told.length ≤ 8) (st : Store) : p_are_told [.int (k : Int), toldV told] st = .ok (.bl true) st := by
  apply eqOk
  (unfold p_are_told runF; rw [ok_retF]; simp only [env0, List.map_cons, List.map_nil, List.length_cons, List.length_nil, Nat.reduceAdd, Nat.reduceSub, List.reduceReplicate, List.cons_append, List.nil_append])
  unfold toldV
  simp only [wkA, List.set_cons_zero, List.set_cons_succ, Option.some.injEq, exists_eq_left', exists_eq_left, List.length_cons, List.length_nil, Nat.reduceAdd, Nat.reduceLeDiff, true_and, and_true, if_true, Bool.not_true, Bool.not_false, Bool.false_eq_true, if_false, decide_eq_true_eq, List.cons.injEq, ↓reduceIte]
  refine ⟨.tup, rfl, ?_⟩
  have e1 : Kd.isa .tup .tup = true := rfl
  simp only [e1, if_true]
  refine Op.of (z := .int (told.length : Int)) (by simp [oLen, asS]) ?_
  refine Op.of (z := .bl true) (by simp [oLeI, oI]; omega) ?_
  simp only [if_true]
  refine ⟨_, rfl, ?_⟩
  refine ok_map (fun _ => .bl true) (fun x hx => ?_) ?_
  · obtain ⟨c, hc, rfl⟩ := List.mem_map.mp hx
    simp only [wipeE]
    simp only [wkA, List.set_cons_zero, List.set_cons_succ, Option.some.injEq, exists_eq_left', exists_eq_left, List.length_cons, List.length_nil, Nat.reduceAdd, Nat.reduceLeDiff, true_and, and_true, if_true, Bool.not_true, Bool.not_false, Bool.false_eq_true, if_false, decide_eq_true_eq, List.cons.injEq, ↓reduceIte]
    rw [Ok.eq (is_comp_sp h5 (h c hc) st)]
    simp
  · refine Op.of (oAll_true st fun x hx => ?_) (by simp)
    obtain ⟨y, _, rfl⟩ := List.mem_map.mp hx; rfl
theorem check_told_sp {k : Nat} {told : List Cp} (h1 : 1 ≤ k) (h5 : k ≤ 5) (h : Valid k told) (hl : told.length ≤ 8) (st : Store) : p_check_told [.int (k : Int), toldV told] st = .ok .non st := by
  apply eqOk
  (unfold p_check_told runF; rw [ok_retF]; simp only [env0, List.map_cons, List.map_nil, List.length_cons, List.length_nil, Nat.reduceAdd, Nat.reduceSub, List.reduceReplicate, List.cons_append, List.nil_append])
  simp only [wkA, List.set_cons_zero, List.set_cons_succ, Option.some.injEq, exists_eq_left', exists_eq_left, List.length_cons, List.length_nil, Nat.reduceAdd, Nat.reduceLeDiff, true_and, and_true, if_true, Bool.not_true, Bool.not_false, Bool.false_eq_true, if_false, decide_eq_true_eq, List.cons.injEq, ↓reduceIte]
  rw [Ok.eq (things_sp h1 h5 st)]
  rw [nxK_nx]
  simp only [wkA, List.set_cons_zero, List.set_cons_succ, Option.some.injEq, exists_eq_left', exists_eq_left, List.length_cons, List.length_nil, Nat.reduceAdd, Nat.reduceLeDiff, true_and, and_true, if_true, Bool.not_true, Bool.not_false, Bool.false_eq_true, if_false, decide_eq_true_eq, List.cons.injEq, ↓reduceIte]
  rw [Ok.eq (are_told_sp h5 h hl st)]
  simp
end Lq
end
section
set_option Elab.async false
set_option linter.all false
set_option maxRecDepth 10000
namespace Lq
open PySem PySem.Spec PyProof.Rows L2
open Sx (at0 si)
end Lq
end
section
set_option Elab.async false
set_option linter.all false
set_option maxRecDepth 10000
namespace Lq
open PySem PySem.Spec PyProof.Rows L2
open Sx (at0 si)
end Lq
end
section
set_option Elab.async false
set_option linter.all false
set_option maxRecDepth 10000
namespace Lq
open PySem PySem.Spec PyProof.Rows L2
open Sx (at0 si)
end Lq
end
section
set_option Elab.async false
set_option linter.all false
set_option maxRecDepth 10000
namespace Lq
open PySem PySem.Spec PyProof.Rows L2
open Sx (at0 si)
mutual
theorem peq_refl : ∀ p : PV, noScr p = true → peq p p = true
  | .non, _ => by simp [peq]
  | .bl _, _ => by simp [peq]
  | .int _, _ => by simp [peq]
  | .str _, _ => by simp [peq]
  | .tup xs, h => by rw [noScr] at h; rw [peq]; exact peqs_refl xs h
  | .lst xs, h => by rw [noScr] at h; rw [peq]; exact peqs_refl xs h
  | .scr _, h => by simp [noScr] at h
  | .own _, h => by simp [noScr] at h
  | .glo _, h => by simp [noScr] at h
theorem peqs_refl : ∀ ps : List PV, noScrs ps = true → peqs ps ps = true
  | [], _ => by simp [peqs]
  | x :: xs, h => by
    rw [noScrs, Bool.and_eq_true] at h
    rw [peqs, peq_refl x h.1, peqs_refl xs h.2]; rfl
end
structure Pl (p : PV) : Prop where
  ok : dChk p = true
  rs : ∀ s, rsv s p = p
theorem oNe_pl {x y : PV} (hx : Pl x) (hy : Pl y) (s : Store) : oNe x y s = some (.bl (!peq x y)) := by
  unfold oNe
  simp only [hx.rs, hy.rs, hx.ok, hy.ok, Bool.and_self, if_true]
theorem Pl.scr {p : PV} (h : Pl p) : noScr p = true := by
  have := h.ok
  unfold dChk at this
  rw [Bool.and_eq_true] at this
  exact this.2
theorem oNe_self {x : PV} (hx : Pl x) (s : Store) : oNe x x s = some (.bl false) := by rw [oNe_pl hx hx, peq_refl x hx.scr]; rfl
end Lq
end
section
set_option Elab.async false
set_option linter.all false
set_option maxRecDepth 10000
namespace Lq
open PySem PySem.Spec PyProof.Rows L2
open Sx (at0 si)
theorem ix0 (c : Cp) (s : Store) : oIx (cpV c) (.int 0) s = some (lotV c.one) := oIxT_nat s (j := 0) rfl
end Lq
end
section
set_option Elab.async false
set_option linter.all false
set_option maxRecDepth 10000
namespace Lq
open PySem PySem.Spec PyProof.Rows L2
open Sx (at0 si si_congr si_zero si_add si_mul)
theorem si_one (f : Nat → Int) (x : Nat) : ∀ k, x < k → si k (fun t => if t = x then f t else 0) = f x
  | k + 1, h => by
    rw [si]
    by_cases e : x = k
    · subst e
      rw [si_zero (fun t ht => by rw [if_neg (by omega)]), if_pos rfl]; omega
    · rw [si_one f x k (by omega), if_neg (by omega)]; omega
end Lq
end
section
set_option Elab.async false
set_option linter.all false
set_option maxRecDepth 100000
namespace Lq
open PySem PySem.Spec PyProof.Rows L2
open Sx (at0 si)
def tI (w : List Int) : PV := .tup (nI w)
theorem four {k : Nat} (h1 : 1 ≤ k) (h4 : k ≤ 4) : k = 1 ∨ k = 2 ∨ k = 3 ∨ k = 4 := by omega
end Lq
end
section
set_option Elab.async false
set_option linter.all false
set_option maxRecDepth 100000
namespace Lq
open PySem PySem.Spec PyProof.Rows L2
open Sx (at0 si)
end Lq
end
section
set_option Elab.async false
set_option linter.all false
set_option maxRecDepth 100000
namespace Lq
open PySem PySem.Spec PyProof.Rows L2
theorem ok_isE {t : Str → Bool} {cs : List Str} {f : XE} {env : Ev} {st : Store} {T : PV → Store → Prop} {k : Nat} {c : Str} (h : Ok (f env st) fun v s => v = .own k ∧ s[k]? = some (.exc c) ∧ c ∈ cs ∧ T (.bl (t c)) s) : Ok (eIsE t cs f env st) T := by
  obtain ⟨v, s, e, rfl, h1, h2, h3⟩ := h
  exact ⟨.bl (t c), s, by unfold eIsE; rw [e]; show (match s[k]? with | some (.exc c) => if c ∈ cs then R.ok (PV.bl (t c)) s else .no | _ => .no) = _; rw [h1]; show (if c ∈ cs then R.ok (PV.bl (t c)) s else .no) = _; rw [if_pos h2], h3⟩
theorem ok_tryX {i j r n : Nat} {cs : List Str} {f : Fn} {fl : XL} {env : Ev} {st : Store} {P : Fl → Store → Prop} {c : Str} (h : Ok (fl env st) fun vs s => vs.length = n ∧ Ex (f vs s) c fun s2 => c ∈ cs ∧ P (.nx ((env.set j (some (.own s2.length))).set i none)) (s2 ++ [.exc c])) : Ok (sTryCall i j r n cs f fl env st) P := by
  obtain ⟨vs, s, e, hl, s2, e2, h2, h3⟩ := h
  refine ⟨_, _, ?_, h3⟩
  unfold sTryCall
  rw [e]
  show (if vs.length = n then _ else R.no) = _
  rw [if_pos hl, e2]
  show (if c ∈ cs then _ else R.no) = _
  rw [if_pos h2]
theorem ok_lr {go : PV → PV → Store → Option PV} {fo : XE} {fl : XL} {env : Ev} {st : Store} {T : PV → Store → Prop} (h : Ok (fo env st) fun v s => (asL s v).isSome = true ∧ Ok (fl env s) fun ys s2 => ∃ y, ys = [y] ∧ Op (go v y s2) fun z => T z s2) : Ok (eLr go fo fl env st) T := by
  obtain ⟨v, s, e, ha, ys, s2, e2, y, rfl, z, e3, h3⟩ := h
  refine ⟨z, s2, ?_, h3⟩
  unfold eLr
  rw [e]
  obtain ⟨xs, ex⟩ := Option.isSome_iff_exists.mp ha
  show (match asL s v with | some _ => _ | none => R.no) = _
  rw [ex]
  show ((fl env s).bind _) = _
  rw [e2]
  show (match go v y s2 with | some z => R.ok z s2 | none => .no) = _
  rw [e3]
theorem add_ls (xs ys : List PV) (s : Store) (h : xs.length + ys.length ≤ 10000) : oAdd (.lst xs) (.lst ys) s = some (.lst (xs ++ ys)) := by
  have sz := szl
  have a : oAddI (.lst xs) (.lst ys) s = none := rfl
  have b : oAddT (.lst xs) (.lst ys) s = none := rfl
  have c : oAddS (.lst xs) (.lst ys) s = none := rfl
  have d : oAddL (.lst xs) (.lst ys) s = some (.lst (xs ++ ys)) := by
    simp only [oAddL, asM]
    rw [if_pos (by omega)]
  simp only [oAdd, oOr, a, b, c, d]
def excN (c : Str) : Nat := excs.findIdx (· == c)
theorem name_sp {k : Nat} {s : Store} {c : Str} (hc : c ∈ excs) (h : s[k]? = some (.exc c)) : p__law_name [.own k] s = .ok (.int (excN c : Int)) s := by
  apply eqOk
  have two : ∀ (y : Str) (T : PV → Store → Prop) (e : Ev), e[0]? = some (some (.own k)) → T (.bl (excIs y c)) s → Ok (eIsE (excIs y) excs (eVar 0) e s) T := fun y T e he ht => by
    refine ok_isE (k := k) (c := c) ?_
    rw [ok_var]
    exact ⟨_, he, rfl, h, hc, ht⟩
  (unfold p__law_name runF; rw [ok_retF]; simp only [env0, List.map_cons, List.map_nil, List.length_cons, List.length_nil, Nat.reduceAdd, Nat.reduceSub, List.reduceReplicate, List.cons_append, List.nil_append])
  rw [ok_seq, ok_if, ok_tNot, ok_tE]
  refine two _ _ _ rfl ?_
  have v : excIs "ValueError" c = true := rfl
  simp only [v, Bool.not_true, Bool.false_eq_true, if_false]
  simp only [wkA, List.set_cons_zero, List.set_cons_succ, Option.some.injEq, exists_eq_left', exists_eq_left, List.length_cons, List.length_nil, Nat.reduceAdd, Nat.reduceLeDiff, true_and, and_true, if_true, Bool.not_true, Bool.not_false, Bool.false_eq_true, if_false, decide_eq_true_eq, List.cons.injEq, ↓reduceIte]
  rw [nxK_nx]
  simp only [wkA, List.set_cons_zero, List.set_cons_succ, Option.some.injEq, exists_eq_left', exists_eq_left, List.length_cons, List.length_nil, Nat.reduceAdd, Nat.reduceLeDiff, true_and, and_true, if_true, Bool.not_true, Bool.not_false, Bool.false_eq_true, if_false, decide_eq_true_eq, List.cons.injEq, ↓reduceIte]
  refine two _ _ _ rfl ?_
  refine two _ _ _ rfl ?_
  try simp only [wkA, List.set_cons_zero, List.set_cons_succ, Option.some.injEq, exists_eq_left', exists_eq_left, List.length_cons, List.length_nil, Nat.reduceAdd, Nat.reduceLeDiff, true_and, and_true, if_true, Bool.not_true, Bool.not_false, Bool.false_eq_true, if_false, decide_eq_true_eq, List.cons.injEq, ↓reduceIte]
  rw [nxK_nx]
  simp only [wkA, List.set_cons_zero, List.set_cons_succ, Option.some.injEq, exists_eq_left', exists_eq_left, List.length_cons, List.length_nil, Nat.reduceAdd, Nat.reduceLeDiff, true_and, and_true, if_true, Bool.not_true, Bool.not_false, Bool.false_eq_true, if_false, decide_eq_true_eq, List.cons.injEq, ↓reduceIte]
  refine two _ _ _ rfl ?_
  refine two _ _ _ rfl ?_
  try simp only [wkA, List.set_cons_zero, List.set_cons_succ, Option.some.injEq, exists_eq_left', exists_eq_left, List.length_cons, List.length_nil, Nat.reduceAdd, Nat.reduceLeDiff, true_and, and_true, if_true, Bool.not_true, Bool.not_false, Bool.false_eq_true, if_false, decide_eq_true_eq, List.cons.injEq, ↓reduceIte]
  refine Op.of (add_ls _ _ _ (by simp)) ?_
  rw [nxK_nx]
  simp only [wkA, List.set_cons_zero, List.set_cons_succ, Option.some.injEq, exists_eq_left', exists_eq_left, List.length_cons, List.length_nil, Nat.reduceAdd, Nat.reduceLeDiff, true_and, and_true, if_true, Bool.not_true, Bool.not_false, Bool.false_eq_true, if_false, decide_eq_true_eq, List.cons.injEq, ↓reduceIte]
  refine two _ _ _ rfl ?_
  refine two _ _ _ rfl ?_
  try simp only [wkA, List.set_cons_zero, List.set_cons_succ, Option.some.injEq, exists_eq_left', exists_eq_left, List.length_cons, List.length_nil, Nat.reduceAdd, Nat.reduceLeDiff, true_and, and_true, if_true, Bool.not_true, Bool.not_false, Bool.false_eq_true, if_false, decide_eq_true_eq, List.cons.injEq, ↓reduceIte]
  refine Op.of (add_ls _ _ _ (by simp)) ?_
  rw [nxK_nx]
  simp only [wkA, List.set_cons_zero, List.set_cons_succ, Option.some.injEq, exists_eq_left', exists_eq_left, List.length_cons, List.length_nil, Nat.reduceAdd, Nat.reduceLeDiff, true_and, and_true, if_true, Bool.not_true, Bool.not_false, Bool.false_eq_true, if_false, decide_eq_true_eq, List.cons.injEq, ↓reduceIte]
  refine two _ _ _ rfl ?_
  refine two _ _ _ rfl ?_
  try simp only [wkA, List.set_cons_zero, List.set_cons_succ, Option.some.injEq, exists_eq_left', exists_eq_left, List.length_cons, List.length_nil, Nat.reduceAdd, Nat.reduceLeDiff, true_and, and_true, if_true, Bool.not_true, Bool.not_false, Bool.false_eq_true, if_false, decide_eq_true_eq, List.cons.injEq, ↓reduceIte]
  refine Op.of (add_ls _ _ _ (by simp)) ?_
  rw [nxK_nx]
  simp only [wkA, List.set_cons_zero, List.set_cons_succ, Option.some.injEq, exists_eq_left', exists_eq_left, List.length_cons, List.length_nil, Nat.reduceAdd, Nat.reduceLeDiff, true_and, and_true, if_true, Bool.not_true, Bool.not_false, Bool.false_eq_true, if_false, decide_eq_true_eq, List.cons.injEq, ↓reduceIte]
  refine two _ _ _ rfl ?_
  refine two _ _ _ rfl ?_
  try simp only [wkA, List.set_cons_zero, List.set_cons_succ, Option.some.injEq, exists_eq_left', exists_eq_left, List.length_cons, List.length_nil, Nat.reduceAdd, Nat.reduceLeDiff, true_and, and_true, if_true, Bool.not_true, Bool.not_false, Bool.false_eq_true, if_false, decide_eq_true_eq, List.cons.injEq, ↓reduceIte]
  refine Op.of (add_ls _ _ _ (by simp)) ?_
  rw [nxK_nx]
  simp only [wkA, List.set_cons_zero, List.set_cons_succ, Option.some.injEq, exists_eq_left', exists_eq_left, List.length_cons, List.length_nil, Nat.reduceAdd, Nat.reduceLeDiff, true_and, and_true, if_true, Bool.not_true, Bool.not_false, Bool.false_eq_true, if_false, decide_eq_true_eq, List.cons.injEq, ↓reduceIte]
  refine two _ _ _ rfl ?_
  try simp only [wkA, List.set_cons_zero, List.set_cons_succ, Option.some.injEq, exists_eq_left', exists_eq_left, List.length_cons, List.length_nil, Nat.reduceAdd, Nat.reduceLeDiff, true_and, and_true, if_true, Bool.not_true, Bool.not_false, Bool.false_eq_true, if_false, decide_eq_true_eq, List.cons.injEq, ↓reduceIte]
  refine Op.of (add_ls _ _ _ (by simp)) ?_
  rw [nxK_nx]
  simp only [List.cons_append, List.nil_append]
  have co : ∀ c : Str, c ∈ excs → goCount (.lst [.bl (excIs "InvalidThings" c), .bl (excIs "InvalidTold" c), .bl (excIs "InvalidWeights" c), .bl (excIs "InvalidLot" c), .bl (excIs "InvalidComparison" c), .bl (excIs "InvalidNumber" c), .bl (excIs "InvalidText" c), .bl (excIs "NotSure" c), .bl (excIs "NoneAgree" c), .bl (excIs "TooMany" c), .bl (excIs "NothingToUndo" c)]) (.bl true) s = some (.int 1) := by
    intro c hc
    simp only [excs, List.mem_cons, List.not_mem_nil, or_false] at hc
    rcases hc with rfl | rfl | rfl | rfl | rfl | rfl | rfl | rfl | rfl | rfl | rfl <;> kernel_rfl
  have ix : ∀ c : Str, c ∈ excs → goIndex (.lst [.bl (excIs "InvalidThings" c), .bl (excIs "InvalidTold" c), .bl (excIs "InvalidWeights" c), .bl (excIs "InvalidLot" c), .bl (excIs "InvalidComparison" c), .bl (excIs "InvalidNumber" c), .bl (excIs "InvalidText" c), .bl (excIs "NotSure" c), .bl (excIs "NoneAgree" c), .bl (excIs "TooMany" c), .bl (excIs "NothingToUndo" c)]) (.bl true) s = some (.int (excN c : Int)) := by
    intro c hc
    simp only [excs, List.mem_cons, List.not_mem_nil, or_false] at hc
    rcases hc with rfl | rfl | rfl | rfl | rfl | rfl | rfl | rfl | rfl | rfl | rfl <;> kernel_rfl
  rw [ok_ret, ok_eIf, ok_tE, ok_bin]
  refine ok_lr ?_
  simp only [wkA, List.set_cons_zero, List.set_cons_succ, Option.some.injEq, exists_eq_left', exists_eq_left, List.length_cons, List.length_nil, Nat.reduceAdd, Nat.reduceLeDiff, true_and, and_true, if_true, Bool.not_true, Bool.not_false, Bool.false_eq_true, if_false, decide_eq_true_eq, List.cons.injEq, ↓reduceIte]
  refine ⟨rfl, Op.of (co c hc) ?_⟩
  try simp only [wkA, List.set_cons_zero, List.set_cons_succ, Option.some.injEq, exists_eq_left', exists_eq_left, List.length_cons, List.length_nil, Nat.reduceAdd, Nat.reduceLeDiff, true_and, and_true, if_true, Bool.not_true, Bool.not_false, Bool.false_eq_true, if_false, decide_eq_true_eq, List.cons.injEq, ↓reduceIte]
  simp only [oEq_int, op_some, BEq.rfl, if_true]
  refine ok_lr ?_
  simp only [wkA, List.set_cons_zero, List.set_cons_succ, Option.some.injEq, exists_eq_left', exists_eq_left, List.length_cons, List.length_nil, Nat.reduceAdd, Nat.reduceLeDiff, true_and, and_true, if_true, Bool.not_true, Bool.not_false, Bool.false_eq_true, if_false, decide_eq_true_eq, List.cons.injEq, ↓reduceIte]
  exact ⟨rfl, Op.of (ix c hc) rfl⟩
end Lq
end
section
set_option Elab.async false
set_option linter.all false
set_option maxRecDepth 100000
namespace Lq
open PySem PySem.Spec PyProof.Rows L2
section
variable {c : Str} {P : Store → Prop} {env : Ev} {st : Store}
theorem ex_bind {α β : Type} {r : R α} {k : α → Store → R β} (h : Ok r fun a s => Ex (k a s) c P) : Ex (r.bind k) c P := by
  obtain ⟨a, s, e, h⟩ := h
  rw [e]; exact h
theorem ex_bindX {α β : Type} {r : R α} {k : α → Store → R β} (h : Ex r c P) : Ex (r.bind k) c P := by
  obtain ⟨s, e, h⟩ := h
  rw [e]; exact ⟨s, rfl, h⟩
theorem ex_seq {a b : XS} (h : Ok (a env st) fun fl s => match fl with | .nx e => Ex (b e s) c P | _ => False) : Ex (sSeq a b env st) c P := by
  refine ex_bind (h.mono fun fl s h => ?_)
  cases fl <;> first | exact h | exact h.elim
theorem ex_seqX {a b : XS} (h : Ex (a env st) c P) : Ex (sSeq a b env st) c P := ex_bindX h
theorem ex_if {d : Ev → Store → R Bool} {a b : XS} (h : Ok (d env st) fun k s => if k = true then Ex (a env s) c P else Ex (b env s) c P) : Ex (sIf d a b env st) c P := by
  refine ex_bind (h.mono fun k s h => ?_)
  cases k <;> exact h
theorem ex_ret {f : XE} (h : Ex (f env st) c P) : Ex (sRet f env st) c P := ex_bindX h
theorem ex_retF {r : R Fl} (h : Ex r c P) : Ex (ret r) c P := ex_bindX h
theorem ex_call {n : Nat} {f : Fn} {al : XL} (h : Ok (al env st) fun xs s => xs.length = n ∧ Ex (f xs s) c P) : Ex (eCall n f al env st) c P := by
  refine ex_bind (h.mono fun xs s h => ?_)
  rw [if_pos h.1]; exact h.2
end
end Lq
end
section
set_option Elab.async false
set_option linter.all false
set_option maxRecDepth 100000
namespace Lq
open PySem PySem.Spec PyProof.Rows L2
open Sx (at0 si)
theorem ok_fmapK {α : Type} {env : Ev} {L : List PV → Store → Prop} {ft : PV → Ev → Store → R Ev} {tt : Ev → Store → R Bool} {fe : XE} (emb : α → PV) (p : α → Bool) (F : α → PV) {zs : List α} {st : Store} (h : ∀ z, z ∈ zs → ∀ s0, Keeps [] st s0 → Ok (ft (emb z) env s0) fun e s => Ok (tt e s) fun k s' => k = p z ∧ Keeps [] st s' ∧ (p z = true → Ok (fe e s') fun v s2 => v = F z ∧ Keeps [] st s2)) (k : ∀ s, Keeps [] st s → L ((zs.filter p).map F) s) : Ok (compV ft tt fe env (zs.map emb) st) L := by
  refine ok_compV (fun i pre s => pre = ((zs.take i).filter p).map F ∧ Keeps [] st s) (zs.map emb) 0 [] st (fun i x hx pre s hp => ?_) ⟨rfl, Keeps.refl _ _⟩ fun all s hp => ?_
  · obtain ⟨rfl, K⟩ := hp
    rw [List.getElem?_map] at hx
    obtain ⟨z, e, rfl⟩ := Option.map_eq_some_iff.mp hx
    refine (h z (List.mem_of_getElem? e) s K).mono fun e1 s1 h1 => h1.mono fun b s2 h2 => ?_
    obtain ⟨rfl, K2, h3⟩ := h2
    rw [Nat.zero_add, List.take_add_one, e, List.filter_append, List.map_append]
    split
    · rename_i q
      refine (h3 q).mono fun v s2 h2 => ?_
      obtain ⟨rfl, K3⟩ := h2
      simp [q, K3]
    · rename_i q
      simp [q, K2]
  · obtain ⟨e, K⟩ := hp
    rw [Nat.zero_add, List.length_map, List.take_length, List.nil_append] at e
    rw [e]; exact k s K
end Lq
end
section
set_option Elab.async false
set_option linter.all false
set_option maxRecDepth 10000
namespace Lq
end Lq
end
section
set_option Elab.async false
set_option linter.all false
set_option maxRecDepth 100000
namespace Lq
open PySem PySem.Spec PyProof.Rows L2
open Sx (at0 si)
theorem is_told_sp {k : Nat} {told : List Cp} (h1 : 1 ≤ k) (h5 : k ≤ 5) (h : Valid k told) (hl : told.length ≤ 8) (st : Store) : p_is_told [.int (k : Int), toldV told] st = .ok (.bl true) st := by
  apply eqOk
  (unfold p_is_told runF; rw [ok_retF]; simp only [env0, List.map_cons, List.map_nil, List.length_cons, List.length_nil, Nat.reduceAdd, Nat.reduceSub, List.reduceReplicate, List.cons_append, List.nil_append])
  simp only [wkA, List.set_cons_zero, List.set_cons_succ, Option.some.injEq, exists_eq_left', exists_eq_left, List.length_cons, List.length_nil, Nat.reduceAdd, Nat.reduceLeDiff, true_and, and_true, if_true, Bool.not_true, Bool.not_false, Bool.false_eq_true, if_false, decide_eq_true_eq, List.cons.injEq, ↓reduceIte]
  rw [Ok.eq (things_sp h1 h5 st)]
  rw [nxK_nx]
  simp only [wkA, List.set_cons_zero, List.set_cons_succ, Option.some.injEq, exists_eq_left', exists_eq_left, List.length_cons, List.length_nil, Nat.reduceAdd, Nat.reduceLeDiff, true_and, and_true, if_true, Bool.not_true, Bool.not_false, Bool.false_eq_true, if_false, decide_eq_true_eq, List.cons.injEq, ↓reduceIte]
  rw [Ok.eq (are_told_sp h5 h hl st)]
  exact ⟨rfl, rfl⟩
end Lq
end
section
set_option Elab.async false
set_option linter.all false
set_option maxRecDepth 10000
namespace Lq
open PySem PySem.Spec PyProof.Rows L2
end Lq
end
section
set_option Elab.async false
set_option linter.all false
set_option maxRecDepth 10000
namespace Lq
open PySem PySem.Spec PyProof.Rows L2
open Sx (at0)
section
variable {env : Ev} {st s : Store} {P : Fl → Store → Prop} {T : PV → Store → Prop} {L : List PV → Store → Prop} {f g h : XE}
end
theorem own_new (st : Store) (c : Cell) : (st ++ [c])[st.length]? = some c := by simp
abbrev Lo := List Nat
def sameG (lt : Lo → Lo → Bool) (a b : Lo) : Bool := !lt a b && !lt b a
def hdG (g : List Lo) : Lo := g.headD []
def addG (lt : Lo → Lo → Bool) : List (List Lo) → Lo → List (List Lo)
  | [], l => [[l]]
  | g :: r, l => if sameG lt (hdG g) l = true then (g ++ [l]) :: r else g :: addG lt r l
def grpG (lt : Lo → Lo → Bool) (ls : List Lo) : List (List Lo) := ls.foldl (addG lt) []
def insG (lt : Lo → Lo → Bool) (g : List Lo) : List (List Lo) → List (List Lo)
  | [] => [g]
  | y :: r => if lt (hdG y) (hdG g) = true then y :: insG lt g r else g :: y :: r
def srtG (lt : Lo → Lo → Bool) : List (List Lo) → List (List Lo)
  | [] => []
  | g :: r => insG lt g (srtG lt r)
def ordG (lt : Lo → Lo → Bool) (ls : List Lo) : List (List Lo) := srtG lt (grpG lt ls)
def ltW (w : List Int) (a b : Lo) : Bool := decide (lw w a < lw w b)
def ordL (k : Nat) (w : List Int) : List (List Lo) := ordG (ltW w) (lotsL k)
def grpD (f : Lo → Int) (V : List Lo → PV) (gs : List (List Lo)) : List (PV × PV) := gs.map fun g => (.int (f (hdG g)), V g)
def ltF (f : Lo → Int) (a b : Lo) : Bool := decide (f a < f b)
end Lq
end
section
set_option Elab.async false
set_option linter.all false
set_option maxRecDepth 10000
namespace Lq
open PySem PySem.Spec PyProof.Rows L2
open Sx (at0)
def IvG (st : Store) (f : Lo → Int) (V : List Lo → PV) (ls : List Lo) (s : Store) : Prop := s[st.length]? = some (.dct (grpD f V (grpG (ltF f) ls))) ∧ Keeps [] st s
theorem IvG.new {st : Store} {f : Lo → Int} {V : List Lo → PV} : IvG st f V [] (st ++ [.dct []]) := ⟨by rw [own_new]; rfl, Keeps.app _ _ _⟩
end Lq
end
section
set_option Elab.async false
set_option linter.all false
set_option maxRecDepth 10000
namespace Lq
open PySem PySem.Spec PyProof.Rows L2
open Sx (at0)
def IvN (st : Store) (kvs : List (PV × PV)) (s : Store) : Prop := s[st.length]? = some (.dcn kvs) ∧ Keeps [] st s
theorem IvN.keep {st s s' : Store} {kvs : List (PV × PV)} (h : IvN st kvs s) (k : Keeps [] s s') : IvN st kvs s' := ⟨keeps_get k h.1 (by simp), h.2.trans k⟩
end Lq
end
section
set_option Elab.async false
set_option linter.all false
set_option maxRecDepth 100000
namespace Lq
open PySem PySem.Spec PyProof.Rows L2
open Sx (at0 si)
theorem three {k : Nat} (h1 : 1 ≤ k) (h3 : k ≤ 3) : k = 1 ∨ k = 2 ∨ k = 3 := by omega
end Lq
end
section
set_option Elab.async false
set_option linter.all false
set_option maxRecDepth 100000
namespace Lq
open PySem PySem.Spec PyProof.Rows L2
open Sx (at0 si)
def lensL (o : List (List Lo)) : List Int := o.map fun g => (g.length : Int)
def mxL (o : List (List Lo)) : Int := match lensL o with | n :: ns => maxI n ns | [] => 0
def stepC (k : Nat) (d : List (List (List Lo))) (w : List Int) : List (List (List Lo)) := if mxL (ordL k w) = 1 then (if (d.any fun e => decide (e = ordL k w)) = true then d else d ++ [ordL k w]) else d
end Lq
end
section
set_option Elab.async false
set_option linter.all false
set_option maxRecDepth 100000
namespace Lq
open PySem PySem.Spec PyProof.Rows L2
def outF (fc : Fn) : Fn := runF 5
    (sSeq (sSet 2 (eC .non))
    (sSeq (sSet 3 (eC .non))
    (sSeq (sTryCall 4 2 3 2 excs fc (aCons (eVar 0) (aCons (eVar 1) aNil)))
    (sSeq (sIf (tE (eBin oIsN (eVar 2) (eC .non))) (sRet (eTup (aCons (eC (.str "returned")) (aCons (eVar 3) aNil)))) sNil)
    (sRet (eTup (aCons (eC (.str "raised")) (aCons (eCall 1 p__law_name (aCons (eVar 2) aNil)) aNil))))))))
def rsd (c : Str) : PV := .tup [.str "raised", .int (excN c : Int)]
theorem outF_x {fc : Fn} {how args : PV} {st : Store} {c : Str} {P : Store → Prop} (hc : c ∈ excs) (h : Ex (fc [how, args] st) c P) : Ok (outF fc [how, args] st) fun v s => v = rsd c ∧ ∃ s2, P s2 ∧ s = s2 ++ [.exc c] := by
  obtain ⟨s2, e, hp⟩ := h
  (unfold outF runF; rw [ok_retF]; simp only [env0, List.map_cons, List.map_nil, List.length_cons, List.length_nil, Nat.reduceAdd, Nat.reduceSub, List.reduceReplicate, List.cons_append, List.nil_append])
  simp only [wkA, List.set_cons_zero, List.set_cons_succ, Option.some.injEq, exists_eq_left', exists_eq_left, List.length_cons, List.length_nil, Nat.reduceAdd, Nat.reduceLeDiff, true_and, and_true, if_true, Bool.not_true, Bool.not_false, Bool.false_eq_true, if_false, decide_eq_true_eq, List.cons.injEq, ↓reduceIte]
  rw [nxK_nx]
  simp only [wkA, List.set_cons_zero, List.set_cons_succ, Option.some.injEq, exists_eq_left', exists_eq_left, List.length_cons, List.length_nil, Nat.reduceAdd, Nat.reduceLeDiff, true_and, and_true, if_true, Bool.not_true, Bool.not_false, Bool.false_eq_true, if_false, decide_eq_true_eq, List.cons.injEq, ↓reduceIte]
  rw [nxK_nx]
  rw [ok_seq]
  refine ok_tryX (c := c) ?_
  simp only [wkA, List.set_cons_zero, List.set_cons_succ, Option.some.injEq, exists_eq_left', exists_eq_left, List.length_cons, List.length_nil, Nat.reduceAdd, Nat.reduceLeDiff, true_and, and_true, if_true, Bool.not_true, Bool.not_false, Bool.false_eq_true, if_false, decide_eq_true_eq, List.cons.injEq, ↓reduceIte]
  refine ⟨s2, e, hc, ?_⟩
  rw [nxK_nx]
  simp only [wkA, List.set_cons_zero, List.set_cons_succ, Option.some.injEq, exists_eq_left', exists_eq_left, List.length_cons, List.length_nil, Nat.reduceAdd, Nat.reduceLeDiff, true_and, and_true, if_true, Bool.not_true, Bool.not_false, Bool.false_eq_true, if_false, decide_eq_true_eq, List.cons.injEq, ↓reduceIte]
  refine Op.of (z := .bl false) rfl ?_
  simp only [Bool.false_eq_true, if_false]
  rw [nxK_nx]
  simp only [wkA, List.set_cons_zero, List.set_cons_succ, Option.some.injEq, exists_eq_left', exists_eq_left, List.length_cons, List.length_nil, Nat.reduceAdd, Nat.reduceLeDiff, true_and, and_true, if_true, Bool.not_true, Bool.not_false, Bool.false_eq_true, if_false, decide_eq_true_eq, List.cons.injEq, ↓reduceIte]
  rw [Ok.eq (name_sp (k := s2.length) hc (List.getElem?_concat_length ..))]
  exact ⟨rfl, s2, hp, rfl⟩
theorem outF_e {fc : Fn} {how args : PV} {st : Store} {c : Str} (hc : c ∈ excs) (h : fc [how, args] st = .ex c st) : outF fc [how, args] st = .ok (rsd c) (st ++ [.exc c]) := by
  obtain ⟨v, s, e, rfl, s2, rfl, rfl⟩ := outF_x hc (P := fun s => s = st) ⟨st, h, rfl⟩
  exact e
theorem rsd_pl (c : Str) : Pl (rsd c) := by
  have : PyData.strOk ("raised" : Str) = true := by kernel_rfl
  exact ⟨by simp [rsd, dChk, dOk, dOks, noScr, noScrs, this], fun _ => rfl⟩
theorem rs_things (st : Store) : p__law_raises [.str "things"] st = .ok (rsd "InvalidThings") st := by kernel_rfl
theorem rs_told (st : Store) : p__law_raises [.str "told"] st = .ok (rsd "InvalidTold") st := by kernel_rfl
theorem rs_weights (st : Store) : p__law_raises [.str "weights"] st = .ok (rsd "InvalidWeights") st := by kernel_rfl
theorem rs_lot (st : Store) : p__law_raises [.str "lot"] st = .ok (rsd "InvalidLot") st := by kernel_rfl
theorem rs_comparison (st : Store) : p__law_raises [.str "comparison"] st = .ok (rsd "InvalidComparison") st := by kernel_rfl
theorem rs_number (st : Store) : p__law_raises [.str "number"] st = .ok (rsd "InvalidNumber") st := by kernel_rfl
theorem rs_many (st : Store) : p__law_raises [.str "many"] st = .ok (rsd "TooMany") st := by kernel_rfl
end Lq
end
section
set_option Elab.async false
set_option linter.all false
set_option maxRecDepth 100000
namespace Gk01
open PySem PySem.Spec PyProof.Rows L2 Lq
open Sx (at0 si)
theorem e_out : f__law_outcome = outF f__law_call := rfl
theorem e_rs : f__law_raises = p__law_raises := rfl
def tp (xs : List PV) : PV := .tup xs
def it (ns : List Int) : PV := .tup (ns.map PV.int)
def c0 : PV := tp [it [0], .str ">", it []]
def fine : PV := tp [it [0], .str ">=", it [1]]
def bads1 : List PV := [it [3], it [1, 0], it [0, 0], .lst [.int 0], tp [.bl true], it [-1], tp [.str "0"], .non, .int 0]
def bads2 : List PV := [.str "<", .str "=>", .str ">>", .str "", .non, .int 1, tp [.str "="]]
def noToldL : List PV := [.non, .int 5, tp [it [0]], .lst [c0], tp (List.replicate 9 c0), tp [tp [it [0], .str ">"]], tp [tp [it [0], .str ">", it [], it []]]] ++
  (bads1.flatMap fun b => [tp [tp [b, .str ">", it []]], tp [tp [it [], .str "=", b]]]) ++ bads2.map fun b => tp [tp [it [0], b, it [1]]]
structure Cl where
  how : Int
  args : PV
  word : Str
  err : Str
def clV (c : Cl) : PV := .tup [.int c.how, c.args, .str c.word]
def mk (w e : Str) (k : Int) (xs : List PV) : Cl := ⟨k, .tup xs, w, e⟩
def ks1 : List Int := [0, 1, 2, 3, 4, 5, 6, 7, 8, 9, 11, 12, 13, 14, 18, 19, 20, 25]
def toldC : List Cl := noToldL.flatMap fun b => ks1.map fun k => mk "told" "InvalidTold" k [.int 3, b, .int 0, .int 0]
def ks2 : List Int := [0, 1, 2, 3, 4, 5, 6, 7, 8, 9, 10, 11, 12, 13, 14, 15, 16, 18, 19, 20, 22, 23, 25]
def badT : List PV := [.non, .int 0, .int 6, .bl true, .str "3", it [3]]
def thC (t : PV) : List Cl := badT.flatMap fun b => ks2.map fun k => mk "things" "InvalidThings" k [b, t, fine, .int 1]
theorem tl_calls (s : Store) : (toldC.map fun c => f__law_call [.int c.how, c.args] s) = toldC.map fun c => R.ex c.err s := by kernel_rfl
theorem th_calls (t : PV) (s : Store) : ((thC t).map fun c => f__law_call [.int c.how, c.args] s) = (thC t).map fun c => R.ex c.err s := by kernel_rfl
def bW1 : List PV := [.non, it [1, 1], it [1, 1, 0], tp [.int 1, .int 1, .bl true], .lst [.int 1, .int 1, .int 1], it [1, 1, -2], it [1, 1, 1, 1]]
def bW2 : List PV := [.non, it [], tp (List.replicate 6 (.int 1)), it [0], .lst [.int 1], tp [.bl true]]
def bL : List PV := [.non, it [3], it [1, 0], .lst [.int 0], tp [.bl true]]
def bC : List PV := [.non, it [], tp [it [0], .str "<", it [1]], tp [it [3], .str ">", it []], .lst [it [0], .str ">", it [1]], tp [it [0], .str ">"]]
def bN1 : List PV := [.non, .int (-1), .int 21, .bl true, .str "1"]
def bN2 : List PV := [.non, .int 0, .int 5, .bl true, .str "1"]
def eqc : PV := tp [it [0], .str "=", it [1]]
def w1C (t : PV) : List Cl := bW1.map fun b => mk "weights" "InvalidWeights" 11 [.int 3, t, b, .int 0]
def w2C : List Cl := bW2.flatMap fun b => [mk "weights" "InvalidWeights" 17 [b, it [0], .int 0, .int 0], mk "weights" "InvalidWeights" 21 [b, fine, .int 0, .int 0], mk "weights" "InvalidWeights" 24 [b, .int 0, .int 0, .int 0]]
def lC (t : PV) : List Cl := bL.flatMap fun b => [mk "lot" "InvalidLot" 17 [it [1, 2, 3], b, .int 0, .int 0], mk "lot" "InvalidLot" 18 [.int 3, t, b, it [0]], mk "lot" "InvalidLot" 18 [.int 3, t, it [], b], mk "lot" "InvalidLot" 25 [.int 3, t, b, .int 1]]
def cC (t : PV) : List Cl := bC.flatMap fun b => [mk "comparison" "InvalidComparison" 13 [.int 3, t, b, it []], mk "comparison" "InvalidComparison" 14 [.int 3, t, b, it []], mk "comparison" "InvalidComparison" 20 [.int 3, t, b, it []], mk "comparison" "InvalidComparison" 21 [it [1, 2, 3], b, .int 0, .int 0]]
def eC' (t : PV) : List Cl := [mk "comparison" "InvalidComparison" 14 [.int 3, t, eqc, it []], mk "comparison" "InvalidComparison" 20 [.int 3, t, eqc, it []]]
def n1C (t : PV) : List Cl := bN1.map fun b => mk "number" "InvalidNumber" 19 [.int 3, t, b, .non]
def n2C (t : PV) : List Cl := bN2.map fun b => mk "number" "InvalidNumber" 25 [.int 3, t, it [0], b]
def mC : List Cl := [mk "many" "TooMany" 5 [.int 4, it [], .int 0, .int 0], mk "many" "TooMany" 6 [.int 4, it [], .int 0, .int 0], mk "many" "TooMany" 7 [.int 4, it [], .int 0, .int 0], mk "many" "TooMany" 8 [.int 4, it [], .int 0, .int 0], mk "many" "TooMany" 1 [.int 5, it [], .int 0, .int 0],
  mk "many" "TooMany" 19 [.int 4, it [], .int 1, .non], mk "many" "TooMany" 22 [.int 4, .int 0, .int 0, .int 0], mk "many" "TooMany" 23 [.int 5, .int 0, .int 0, .int 0], mk "many" "TooMany" 25 [.int 5, it [], it [], .int 1]]
def allC (t : PV) : List Cl := toldC ++ (thC t ++ w1C t ++ w2C ++ lC t ++ cC t ++ eC' t ++ n1C t ++ n2C t ++ mC)
def ckS (r : XS) : XS := sSeq (sDrop (eCall 2 f_check_told (aCons (eVar 0) (aCons (eVar 1) aNil)))) r
def Hck (t : PV) : Prop := ∀ s, f_check_told [.int 3, t] s = .ok .non s
theorem ck_ok {t : PV} (H : Hck t) (r : XS) (e : Ev) (s : Store) : ckS r (some (.int 3) :: some t :: e) s = r (some (.int 3) :: some t :: e) s := by
  have h : eCall 2 f_check_told (aCons (eVar 0) (aCons (eVar 1) aNil)) (some (.int 3) :: some t :: e) s = .ok .non s := by
    show f_check_told [.int 3, t] s = _
    exact H s
  unfold ckS sSeq sDrop
  rw [h]
  rfl
def b_agrees : XS :=
    (sSeq (sIf (tOrF (tNotF (tE (eCall 1 f_are_weights (aCons (eVar 2) aNil)))) (tE (eBin oNe (eCB oLen (aCons (eVar 2) aNil)) (eVar 0)))) (sRaise "InvalidWeights") sNil)
    sBar)
theorem e_agrees : f_agrees = runF 3 (ckS b_agrees) := rfl
def b_possible : XS :=
    (sSeq (sDrop (eCall 2 f_check_lot (aCons (eVar 0) (aCons (eVar 2) aNil))))
    (sSeq (sDrop (eCall 2 f_check_lot (aCons (eVar 0) (aCons (eVar 3) aNil))))
    sBar))
theorem e_possible : f_possible = runF 7 (ckS b_possible) := rfl
def b_is_plan : XS :=
    (sSeq (sIf (tNotF (tE (eCall 3 f_is_between (aCons (eVar 2) (aCons (eC (.int 0)) (aCons (eC (.int 20)) aNil)))))) (sRaise "InvalidNumber") sNil)
    (sSeq (sSet 4 (eCall 2 f_weights_left (aCons (eVar 0) (aCons (eVar 1) aNil))))
    sBar))
theorem e_is_plan : f_is_plan = runF 5 (ckS b_is_plan) := rfl
def b_follows : XS :=
    (sSeq (sDrop (eCall 2 f_check_comparison (aCons (eVar 0) (aCons (eVar 2) aNil))))
    sBar)
theorem e_follows : f_follows = runF 3 (ckS b_follows) := rfl
def b_grounds : XS :=
    (sSeq (sDrop (eCall 2 f_check_comparison (aCons (eVar 0) (aCons (eVar 2) aNil))))
    (sSeq (sIf (tE (eBin oEq (eBin oIx (eVar 2) (eC (.int 1))) (eC (.str "=")))) (sRaise "InvalidComparison") sNil)
    sBar))
theorem e_grounds : f_grounds = runF 4 (ckS b_grounds) := rfl
def b_is_grounds : XS :=
    (sSeq (sDrop (eCall 2 f_check_comparison (aCons (eVar 0) (aCons (eVar 2) aNil))))
    (sSeq (sIf (tE (eBin oEq (eBin oIx (eVar 2) (eC (.int 1))) (eC (.str "=")))) (sRaise "InvalidComparison") sNil)
    sBar))
theorem e_is_grounds : f_is_grounds = runF 4 (ckS b_is_grounds) := rfl
def b_naive_possible : XS :=
    (sSeq (sDrop (eCall 2 f_check_lot (aCons (eVar 0) (aCons (eVar 2) aNil))))
    (sSeq (sDrop (eCall 2 f_check_lot (aCons (eVar 0) (aCons (eVar 3) aNil))))
    (sSeq (sIf (tNotF (tE (eCall 3 f_is_between (aCons (eVar 4) (aCons (eC (.int 1)) (aCons (eC (.int 4)) aNil)))))) (sRaise "InvalidNumber") sNil)
    (sSeq (sIf (tE (eBin oGtI (eVar 0) (eC (.int 4)))) (sRaise "TooMany") sNil)
    sBar))))
theorem e_naive_possible : f_naive_possible = runF 12 (ckS b_naive_possible) := rfl
theorem r_agrees (t : PV) (s : Store) : (bW1.map fun b => Lq.ret (b_agrees [some (.int 3), some t, some b] s)) = bW1.map fun _ => R.ex "InvalidWeights" s := by kernel_rfl
theorem r_poss1 (t : PV) (s : Store) : (bL.map fun b => Lq.ret (b_possible [some (.int 3), some t, some b, some (it [0]), none, none, none] s)) = bL.map fun _ => R.ex "InvalidLot" s := by kernel_rfl
theorem r_poss2 (t : PV) (s : Store) : (bL.map fun b => Lq.ret (b_possible [some (.int 3), some t, some (it []), some b, none, none, none] s)) = bL.map fun _ => R.ex "InvalidLot" s := by kernel_rfl
theorem r_naive1 (t : PV) (s : Store) : (bL.map fun b => Lq.ret (b_naive_possible [some (.int 3), some t, some b, some b, some (.int 1), none, none, none, none, none, none, none] s)) = bL.map fun _ => R.ex "InvalidLot" s := by kernel_rfl
theorem r_naive2 (t : PV) (s : Store) : (bN2.map fun b => Lq.ret (b_naive_possible [some (.int 3), some t, some (it [0]), some (it [0]), some b, none, none, none, none, none, none, none] s)) = bN2.map fun _ => R.ex "InvalidNumber" s := by kernel_rfl
theorem r_follows (t : PV) (s : Store) : (bC.map fun b => Lq.ret (b_follows [some (.int 3), some t, some b] s)) = bC.map fun _ => R.ex "InvalidComparison" s := by kernel_rfl
theorem r_grounds (t : PV) (s : Store) : ((bC ++ [eqc]).map fun b => Lq.ret (b_grounds [some (.int 3), some t, some b, none] s)) = (bC ++ [eqc]).map fun _ => R.ex "InvalidComparison" s := by kernel_rfl
theorem r_isgr (t : PV) (s : Store) : ((bC ++ [eqc]).map fun b => Lq.ret (b_is_grounds [some (.int 3), some t, some b, some (it [])] s)) = (bC ++ [eqc]).map fun _ => R.ex "InvalidComparison" s := by kernel_rfl
theorem r_plan (t : PV) (s : Store) : (bN1.map fun b => Lq.ret (b_is_plan [some (.int 3), some t, some b, some .non, none] s)) = bN1.map fun _ => R.ex "InvalidNumber" s := by kernel_rfl
theorem w2_calls (s : Store) : (w2C.map fun c => f__law_call [.int c.how, c.args] s) = w2C.map fun c => R.ex c.err s := by kernel_rfl
theorem m_calls (s : Store) : (mC.map fun c => f__law_call [.int c.how, c.args] s) = mC.map fun c => R.ex c.err s := by kernel_rfl
theorem l17_calls (s : Store) : (bL.map fun b => f__law_call [.int 17, .tup [it [1, 2, 3], b, .int 0, .int 0]] s) = bL.map fun _ => R.ex "InvalidLot" s := by kernel_rfl
theorem c21_calls (s : Store) : (bC.map fun b => f__law_call [.int 21, .tup [it [1, 2, 3], b, .int 0, .int 0]] s) = bC.map fun _ => R.ex "InvalidComparison" s := by kernel_rfl
theorem map_at {α β : Type} {f g : α → β} {l : List α} (h : l.map f = l.map g) {x : α} (hx : x ∈ l) : f x = g x := List.map_inj_left.mp h x hx
end Gk01
end
section
set_option Elab.async false
set_option linter.all false
set_option maxRecDepth 100000
namespace Lq
open PySem PySem.Spec PyProof.Rows L2
open Sx (at0 si)
inductive An where | lt | eq | gt
  deriving DecidableEq
def An.s : An → Str
  | .lt => "<"
  | .eq => "="
  | .gt => ">"
abbrev Qn := Lo × Lo
abbrev Wt := List Int
def ansA (q : Qn) (w : Wt) : An := if lw w q.2 < lw w q.1 then .gt else if lw w q.1 = lw w q.2 then .eq else .lt
def selA (q : Qn) (a : An) (ws : List Wt) : List Wt := ws.filter fun w => decide (ansA q w = a)
def ans3L : List An := [.lt, .eq, .gt]
def partsL (ws : List Wt) (q : Qn) : List (An × List Wt) := (ans3L.filter fun a => !(selA q a ws).isEmpty).map fun a => (a, selA q a ws)
def someV (ws : List Wt) : PV := .tup (ws.map tI)
def qsL : Nat → List Qn
  | 2 => [([0], [1])]
  | 3 => [([0], [1]), ([0], [1, 2]), ([0], [2]), ([0, 1], [2]), ([0, 2], [1]), ([1], [2])]
  | _ => []
end Lq
end
section
set_option Elab.async false
set_option linter.all false
set_option maxRecDepth 100000
namespace Lq
open PySem PySem.Spec PyProof.Rows L2
open Sx (at0 si)
def splB (ws : List Wt) (q : Qn) : Bool := decide (1 < (partsL ws q).length)
def maxL : List Int → Int
  | [] => 0
  | n :: ns => maxI n ns
def minL : List Int → Int
  | [] => 0
  | n :: ns => minI n ns
def fewN (k : Nat) : Nat → List Wt → Int
  | 0, _ => 0
  | n + 1, ws => if ws.length = 1 then 0 else minL (((qsL k).filter (splB ws)).map fun q => 1 + maxL ((partsL ws q).map fun p => fewN k n p.2))
def fewF (k : Nat) (ws : List Wt) : Int := fewN k 7 ws
def KnD (k : Nat) (kvs : List (PV × PV)) : Prop := ∀ kv, kv ∈ kvs → ∃ ws, kv = (someV ws, .int (fewF k ws))
def IvK (k c : Nat) (st : Store) (m : Nat) (s : Store) : Prop := (∃ kvs, s[c]? = some (.dcn kvs) ∧ KnD k kvs ∧ kvs.length ≤ m) ∧ Keeps [c] st s
theorem IvK.keep {k c m : Nat} {st s s' : Store} (h : IvK k c st m s) (K : Keeps [] s s') : IvK k c st m s' := by
  obtain ⟨⟨kvs, a, b, d⟩, K0⟩ := h
  exact ⟨⟨kvs, keeps_get K a (by simp), b, d⟩, K0.trans ⟨K.1, fun i hi hn => K.2 i hi (by simp)⟩⟩
theorem IvK.mono {k c m m' : Nat} {st s : Store} (h : IvK k c st m s) (l : m ≤ m') : IvK k c st m' s := by
  obtain ⟨⟨kvs, a, b, d⟩, K0⟩ := h
  exact ⟨⟨kvs, a, b, by omega⟩, K0⟩
end Lq
end
section
set_option Elab.async false
set_option linter.all false
set_option maxRecDepth 100000
namespace Lq
open PySem PySem.Spec PyProof.Rows L2
open Sx (at0 si)
end Lq
end
section
set_option Elab.async false
set_option linter.all false
set_option maxRecDepth 100000
namespace Lq
open PySem PySem.Spec PyProof.Rows L2
open Sx (at0 si)
theorem IvK.len {k c m : Nat} {st s : Store} (h : IvK k c st m s) : c < s.length := by
  obtain ⟨⟨kvs, a, _⟩, _⟩ := h
  exact (List.getElem?_eq_some_iff.mp a).1
end Lq
end
section
set_option Elab.async false
set_option linter.all false
set_option maxRecDepth 100000
namespace Lq
open PySem PySem.Spec PyProof.Rows L2
open Sx (at0 si)
end Lq
end
section
set_option Elab.async false
set_option linter.all false
set_option maxRecDepth 100000
namespace Lq
open PySem PySem.Spec PyProof.Rows L2
open Sx (at0 si)
section
variable {env : Ev} {st : Store} {T : PV → Store → Prop}
end
end Lq
end
section
set_option Elab.async false
set_option linter.all false
set_option maxRecDepth 100000
namespace Gk01
open PySem PySem.Spec PyProof.Rows L2 Lq
open Sx (at0 si)
def law3 : XS :=
    (sSeq (sSet 5 (eFz (fComp (iVal (eVar 3)) (gNm 7) (tE (eBin oNe (eCall 2 f__law_outcome (aCons (eBin oIx (eVar 7) (eC (.int 0))) (aCons (eBin oIx (eVar 7) (eC (.int 1))) aNil))) (eCall 1 f__law_raises (aCons (eBin oIx (eVar 7) (eC (.int 2))) aNil)))) (eVar 7) [7])))
    (sSeq (sIf (tOrF (tE (eBin oNe (eVar 5) (eFz (fDisp aNil)))) (tOrF (tE (eBin oLt (eCB oLen (aCons (eVar 3) aNil)) (eC (.int 400)))) (tOrF (tE (eCall 3 f_is_balance (aCons (eC (.int 3)) (aCons (eVar 2) (aCons (eC .non) aNil))))) (tOrF (tE (eCall 2 f_is_lot (aCons (eC (.int 3)) (aCons (eTup (aCons (eC (.int 3)) aNil)) aNil)))) (tE (eCall 2 f_is_lot (aCons (eC (.int 3)) (aCons (eFz (fDisp (aCons (eC (.int 0)) aNil))) aNil)))))))) (sRet (eC (.bl false))) sNil)
    (sRet (eAnd (eBin oIsN (eCall 2 f_is_told (aCons (eC (.int 3)) (aCons (eVar 2) aNil))) (eC (.bl true))) (eAnd (eBin oIsN (eCall 2 f_is_lot (aCons (eC (.int 3)) (aCons (eTup (aCons (eC (.int 0)) (aCons (eC (.int 2)) aNil))) aNil))) (eC (.bl true))) (eBin oIsN (eCall 2 f_is_told (aCons (eC (.int 5)) (aCons (eBin oMul (eTup (aCons (eTup (aCons (eTup (aCons (eC (.int 4)) aNil)) (aCons (eC (.str "=")) (aCons (eTup aNil) aNil)))) aNil)) (eC (.int 8))) aNil))) (eC (.bl true))))))))
def law2 : XS :=
    (sSeq (sFor (iVal (eCall 0 f__law_no_told aNil)) (gNm 4) (sSeq (sSet 3 (eBin oAdd (eVar 3) (eFz (fComp (iVal (eBin oAdd (eFz (fListRg (eC (.int 10)))) (eFz (fDisp (aCons (eC (.int 11)) (aCons (eC (.int 12)) (aCons (eC (.int 13)) (aCons (eC (.int 14)) (aCons (eC (.int 18)) (aCons (eC (.int 19)) (aCons (eC (.int 20)) (aCons (eC (.int 25)) aNil)))))))))))) (gNm 6) (fun _ st => .ok true st) (eTup (aCons (eVar 6) (aCons (eTup (aCons (eC (.int 3)) (aCons (eVar 4) (aCons (eC (.int 0)) (aCons (eC (.int 0)) aNil))))) (aCons (eC (.str "told")) aNil)))) [6]))))
    (sIf (tE (eCall 2 f_is_told (aCons (eC (.int 3)) (aCons (eVar 4) aNil)))) (sRet (eC (.bl false))) sNil)))
    (sSeq (sSet 3 (eBin oAdd (eVar 3) (eCall 1 f__law_wrong (aCons (eVar 2) aNil))))
    law3))
def law1 : XS :=
    (sSeq (sSet 1 (eCall 1 townF (aCons (eVar 0) aNil)))
    (sSeq (sPar 2 3 (aCons (eCall 4 p__law_told (aCons (eVar 0) (aCons (eVar 1) (aCons (eC (.int 3)) (aCons (eC (.int 8)) aNil))))) (aCons (eFz (fDisp aNil)) aNil)))
    law2))
theorem law_eq : f_law = runF 8 law1 := rfl
def law2X (X : XS) : XS :=
    (sSeq (sFor (iVal (eCall 0 f__law_no_told aNil)) (gNm 4) (sSeq (sSet 3 (eBin oAdd (eVar 3) (eFz (fComp (iVal (eBin oAdd (eFz (fListRg (eC (.int 10)))) (eFz (fDisp (aCons (eC (.int 11)) (aCons (eC (.int 12)) (aCons (eC (.int 13)) (aCons (eC (.int 14)) (aCons (eC (.int 18)) (aCons (eC (.int 19)) (aCons (eC (.int 20)) (aCons (eC (.int 25)) aNil)))))))))))) (gNm 6) (fun _ st => .ok true st) (eTup (aCons (eVar 6) (aCons (eTup (aCons (eC (.int 3)) (aCons (eVar 4) (aCons (eC (.int 0)) (aCons (eC (.int 0)) aNil))))) (aCons (eC (.str "told")) aNil)))) [6]))))
    (sIf (tE (eCall 2 f_is_told (aCons (eC (.int 3)) (aCons (eVar 4) aNil)))) (sRet (eC (.bl false))) sNil)))
    (sSeq (sSet 3 (eBin oAdd (eVar 3) (eCall 1 f__law_wrong (aCons (eVar 2) aNil))))
    X))
theorem law2_X : law2 = law2X law3 := rfl
def stOf : R Fl → Store
  | .ok _ s => s
  | _ => []
def stA (ns : List Int) (t : PV) (c : List PV) : Store := stOf (law2X (fun e s => .ok (.nx e) s) [some (.scr ns), some (.own 0), some t, some (.lst []), none, none, none, none] [.lst c])
theorem law2X_eq (X : XS) (ns : List Int) (t : PV) (c : List PV) : law2X X [some (.scr ns), some (.own 0), some t, some (.lst []), none, none, none, none] [.lst c] =
    X [some (.scr ns), some (.own 0), some t, some (.lst ((allC t).map clV)), some (tp [tp [it [0], tp [.str "="], it [1]]]), none, none, none] (stA ns t c) := by kernel_rfl
theorem ex_callV {tab : List (Str × Fn)} {n : Nat} {ff : XE} {fl : XL} {env : Ev} {st : Store} {c : Str} {P : Store → Prop} (h : Ok (ff env st) fun g s1 => ∃ x f, g = .glo x ∧ tab.lookup x = some f ∧ Ok (fl env s1) fun xs s2 => xs.length = n ∧ Ex (f xs s2) c P) : Ex (eCallV tab n ff fl env st) c P := by
  rw [eCallV]
  refine ex_bind (h.mono fun g s1 h => ?_)
  obtain ⟨x, f, rfl, e, h⟩ := h
  simp only [e]
  refine ex_bind (h.mono fun xs s2 h => ?_)
  rw [if_pos h.1]
  exact h.2
theorem ex_eq {r : R PV} {c : Str} {s : Store} (h : Ex r c fun s' => s' = s) : r = .ex c s := by
  obtain ⟨s', e, rfl⟩ := h
  exact e
theorem ex_of {r : R PV} {c : Str} {s : Store} (h : r = .ex c s) : Ex r c fun s' => s' = s := ⟨s, h, rfl⟩
theorem call3 {i : Nat} {x : Str} {f : Fn} {a b c d : PV} {s : Store} {e : Str} (h : f [a, b, c] s = .ex e s) (h11 : 11 ≤ i) (h15 : i < 15)
    (e2 : oIx (.tup [.glo "agrees", .glo "is_balance", .glo "follows", .glo "grounds"]) (.int ((i : Int) - 11)) s = some (.glo x)) (e3 : ([("agrees", f_agrees), ("is_balance", f_is_balance), ("follows", f_follows), ("grounds", f_grounds)] : List (Str × Fn)).lookup x = some f) :
    f__law_call [.int (i : Int), .tup [a, b, c, d]] s = .ex e s := by
  have sz := szl
  refine ex_eq ?_
  unfold f__law_call runF
  refine ex_retF ?_
  simp only [env0, List.map_cons, List.map_nil, List.length_cons, List.length_nil, Nat.reduceAdd, Nat.reduceSub, List.reduceReplicate, List.cons_append, List.nil_append]
  refine ex_seq ?_
  simp only [wkA, List.set_cons_zero, List.set_cons_succ, Option.some.injEq, exists_eq_left', exists_eq_left, List.length_cons, List.length_nil, Nat.reduceAdd, Nat.reduceLeDiff, true_and, and_true, if_true, Bool.not_true, Bool.not_false, Bool.false_eq_true, if_false, decide_eq_true_eq, List.cons.injEq, ↓reduceIte]
  refine ex_seq ?_
  simp only [wkA, List.set_cons_zero, List.set_cons_succ, Option.some.injEq, exists_eq_left', exists_eq_left, List.length_cons, List.length_nil, Nat.reduceAdd, Nat.reduceLeDiff, true_and, and_true, if_true, Bool.not_true, Bool.not_false, Bool.false_eq_true, if_false, decide_eq_true_eq, List.cons.injEq, ↓reduceIte]
  rw [if_neg (by omega)]
  refine ex_seqX (ex_if ?_)
  simp only [wkA, List.set_cons_zero, List.set_cons_succ, Option.some.injEq, exists_eq_left', exists_eq_left, List.length_cons, List.length_nil, Nat.reduceAdd, Nat.reduceLeDiff, true_and, and_true, if_true, Bool.not_true, Bool.not_false, Bool.false_eq_true, if_false, decide_eq_true_eq, List.cons.injEq, ↓reduceIte]
  rw [if_pos (by omega)]
  refine ex_ret (ex_callV ?_)
  simp only [wkA, List.set_cons_zero, List.set_cons_succ, Option.some.injEq, exists_eq_left', exists_eq_left, List.length_cons, List.length_nil, Nat.reduceAdd, Nat.reduceLeDiff, true_and, and_true, if_true, Bool.not_true, Bool.not_false, Bool.false_eq_true, if_false, decide_eq_true_eq, List.cons.injEq, ↓reduceIte]
  refine Op.of e2 ⟨_, _, rfl, e3, ?_⟩
  exact ex_of h
theorem call4 {i : Nat} {x : Str} {f : Fn} {a b c d : PV} {s : Store} {e : Str} (h : f [a, b, c, d] s = .ex e s) (h18 : 18 ≤ i) (h21 : i < 21)
    (e2 : oIx (.tup [.glo "possible", .glo "is_plan", .glo "is_grounds"]) (.int ((i : Int) - 18)) s = some (.glo x)) (e3 : ([("possible", f_possible), ("is_plan", f_is_plan), ("is_grounds", f_is_grounds)] : List (Str × Fn)).lookup x = some f) :
    f__law_call [.int (i : Int), .tup [a, b, c, d]] s = .ex e s := by
  have sz := szl
  refine ex_eq ?_
  unfold f__law_call runF
  refine ex_retF ?_
  simp only [env0, List.map_cons, List.map_nil, List.length_cons, List.length_nil, Nat.reduceAdd, Nat.reduceSub, List.reduceReplicate, List.cons_append, List.nil_append]
  refine ex_seq ?_
  simp only [wkA, List.set_cons_zero, List.set_cons_succ, Option.some.injEq, exists_eq_left', exists_eq_left, List.length_cons, List.length_nil, Nat.reduceAdd, Nat.reduceLeDiff, true_and, and_true, if_true, Bool.not_true, Bool.not_false, Bool.false_eq_true, if_false, decide_eq_true_eq, List.cons.injEq, ↓reduceIte]
  refine ex_seq ?_
  simp only [wkA, List.set_cons_zero, List.set_cons_succ, Option.some.injEq, exists_eq_left', exists_eq_left, List.length_cons, List.length_nil, Nat.reduceAdd, Nat.reduceLeDiff, true_and, and_true, if_true, Bool.not_true, Bool.not_false, Bool.false_eq_true, if_false, decide_eq_true_eq, List.cons.injEq, ↓reduceIte]
  rw [if_neg (by omega)]
  refine ex_seq ?_
  simp only [wkA, List.set_cons_zero, List.set_cons_succ, Option.some.injEq, exists_eq_left', exists_eq_left, List.length_cons, List.length_nil, Nat.reduceAdd, Nat.reduceLeDiff, true_and, and_true, if_true, Bool.not_true, Bool.not_false, Bool.false_eq_true, if_false, decide_eq_true_eq, List.cons.injEq, ↓reduceIte]
  rw [if_neg (by omega)]
  refine ex_seq ?_
  simp only [wkA, List.set_cons_zero, List.set_cons_succ, Option.some.injEq, exists_eq_left', exists_eq_left, List.length_cons, List.length_nil, Nat.reduceAdd, Nat.reduceLeDiff, true_and, and_true, if_true, Bool.not_true, Bool.not_false, Bool.false_eq_true, if_false, decide_eq_true_eq, List.cons.injEq, ↓reduceIte]
  rw [if_neg (by omega)]
  refine ex_seqX (ex_if ?_)
  simp only [wkA, List.set_cons_zero, List.set_cons_succ, Option.some.injEq, exists_eq_left', exists_eq_left, List.length_cons, List.length_nil, Nat.reduceAdd, Nat.reduceLeDiff, true_and, and_true, if_true, Bool.not_true, Bool.not_false, Bool.false_eq_true, if_false, decide_eq_true_eq, List.cons.injEq, ↓reduceIte]
  rw [if_pos (by omega)]
  refine ex_ret (ex_callV ?_)
  simp only [wkA, List.set_cons_zero, List.set_cons_succ, Option.some.injEq, exists_eq_left', exists_eq_left, List.length_cons, List.length_nil, Nat.reduceAdd, Nat.reduceLeDiff, true_and, and_true, if_true, Bool.not_true, Bool.not_false, Bool.false_eq_true, if_false, decide_eq_true_eq, List.cons.injEq, ↓reduceIte]
  refine Op.of e2 ⟨_, _, rfl, e3, ?_⟩
  exact ex_of h
theorem call5 {a b c d : PV} {s : Store} {e : Str} (h : f_naive_possible [a, b, c, c, d] s = .ex e s) : f__law_call [.int 25, .tup [a, b, c, d]] s = .ex e s := by
  have sz := szl
  refine ex_eq ?_
  unfold f__law_call runF
  refine ex_retF ?_
  simp only [env0, List.map_cons, List.map_nil, List.length_cons, List.length_nil, Nat.reduceAdd, Nat.reduceSub, List.reduceReplicate, List.cons_append, List.nil_append]
  refine ex_seq ?_
  simp only [wkA, List.set_cons_zero, List.set_cons_succ, Option.some.injEq, exists_eq_left', exists_eq_left, List.length_cons, List.length_nil, Nat.reduceAdd, Nat.reduceLeDiff, true_and, and_true, if_true, Bool.not_true, Bool.not_false, Bool.false_eq_true, if_false, decide_eq_true_eq, List.cons.injEq, ↓reduceIte]
  refine ex_seq ?_
  simp only [wkA, List.set_cons_zero, List.set_cons_succ, Option.some.injEq, exists_eq_left', exists_eq_left, List.length_cons, List.length_nil, Nat.reduceAdd, Nat.reduceLeDiff, true_and, and_true, if_true, Bool.not_true, Bool.not_false, Bool.false_eq_true, if_false, decide_eq_true_eq, List.cons.injEq, ↓reduceIte]
  rw [if_neg (by omega)]
  refine ex_seq ?_
  simp only [wkA, List.set_cons_zero, List.set_cons_succ, Option.some.injEq, exists_eq_left', exists_eq_left, List.length_cons, List.length_nil, Nat.reduceAdd, Nat.reduceLeDiff, true_and, and_true, if_true, Bool.not_true, Bool.not_false, Bool.false_eq_true, if_false, decide_eq_true_eq, List.cons.injEq, ↓reduceIte]
  rw [if_neg (by omega)]
  refine ex_seq ?_
  simp only [wkA, List.set_cons_zero, List.set_cons_succ, Option.some.injEq, exists_eq_left', exists_eq_left, List.length_cons, List.length_nil, Nat.reduceAdd, Nat.reduceLeDiff, true_and, and_true, if_true, Bool.not_true, Bool.not_false, Bool.false_eq_true, if_false, decide_eq_true_eq, List.cons.injEq, ↓reduceIte]
  rw [if_neg (by omega)]
  refine ex_seq ?_
  simp only [wkA, List.set_cons_zero, List.set_cons_succ, Option.some.injEq, exists_eq_left', exists_eq_left, List.length_cons, List.length_nil, Nat.reduceAdd, Nat.reduceLeDiff, true_and, and_true, if_true, Bool.not_true, Bool.not_false, Bool.false_eq_true, if_false, decide_eq_true_eq, List.cons.injEq, ↓reduceIte]
  rw [if_neg (by omega)]
  refine ex_seq ?_
  simp only [wkA, List.set_cons_zero, List.set_cons_succ, Option.some.injEq, exists_eq_left', exists_eq_left, List.length_cons, List.length_nil, Nat.reduceAdd, Nat.reduceLeDiff, true_and, and_true, if_true, Bool.not_true, Bool.not_false, Bool.false_eq_true, if_false, decide_eq_true_eq, List.cons.injEq, ↓reduceIte]
  rw [if_neg (by decide)]
  refine ex_seq ?_
  simp only [wkA, List.set_cons_zero, List.set_cons_succ, Option.some.injEq, exists_eq_left', exists_eq_left, List.length_cons, List.length_nil, Nat.reduceAdd, Nat.reduceLeDiff, true_and, and_true, if_true, Bool.not_true, Bool.not_false, Bool.false_eq_true, if_false, decide_eq_true_eq, List.cons.injEq, ↓reduceIte]
  rw [if_neg (by omega)]
  refine ex_ret (ex_call ?_)
  simp only [wkA, List.set_cons_zero, List.set_cons_succ, Option.some.injEq, exists_eq_left', exists_eq_left, List.length_cons, List.length_nil, Nat.reduceAdd, Nat.reduceLeDiff, true_and, and_true, if_true, Bool.not_true, Bool.not_false, Bool.false_eq_true, if_false, decide_eq_true_eq, List.cons.injEq, ↓reduceIte]
  exact ex_of h
section
variable {t : PV} (H : Hck t)
include H
theorem x_agrees (s : Store) : ∀ b, b ∈ bW1 → f_agrees [.int 3, t, b] s = .ex "InvalidWeights" s := fun b hb => by
  rw [e_agrees]
  show Lq.ret (ckS b_agrees [some (.int 3), some t, some b] s) = _
  rw [ck_ok H]
  exact map_at (r_agrees t s) hb
theorem x_poss1 (s : Store) : ∀ b, b ∈ bL → f_possible [.int 3, t, b, it [0]] s = .ex "InvalidLot" s := fun b hb => by
  rw [e_possible]
  show Lq.ret (ckS b_possible [some (.int 3), some t, some b, some (it [0]), none, none, none] s) = _
  rw [ck_ok H]
  exact map_at (r_poss1 t s) hb
theorem x_poss2 (s : Store) : ∀ b, b ∈ bL → f_possible [.int 3, t, it [], b] s = .ex "InvalidLot" s := fun b hb => by
  rw [e_possible]
  show Lq.ret (ckS b_possible [some (.int 3), some t, some (it []), some b, none, none, none] s) = _
  rw [ck_ok H]
  exact map_at (r_poss2 t s) hb
theorem x_naive1 (s : Store) : ∀ b, b ∈ bL → f_naive_possible [.int 3, t, b, b, .int 1] s = .ex "InvalidLot" s := fun b hb => by
  rw [e_naive_possible]
  show Lq.ret (ckS b_naive_possible [some (.int 3), some t, some b, some b, some (.int 1), none, none, none, none, none, none, none] s) = _
  rw [ck_ok H]
  exact map_at (r_naive1 t s) hb
theorem x_naive2 (s : Store) : ∀ b, b ∈ bN2 → f_naive_possible [.int 3, t, it [0], it [0], b] s = .ex "InvalidNumber" s := fun b hb => by
  rw [e_naive_possible]
  show Lq.ret (ckS b_naive_possible [some (.int 3), some t, some (it [0]), some (it [0]), some b, none, none, none, none, none, none, none] s) = _
  rw [ck_ok H]
  exact map_at (r_naive2 t s) hb
theorem x_follows (s : Store) : ∀ b, b ∈ bC → f_follows [.int 3, t, b] s = .ex "InvalidComparison" s := fun b hb => by
  rw [e_follows]
  show Lq.ret (ckS b_follows [some (.int 3), some t, some b] s) = _
  rw [ck_ok H]
  exact map_at (r_follows t s) hb
theorem x_grounds (s : Store) : ∀ b, b ∈ bC ++ [eqc] → f_grounds [.int 3, t, b] s = .ex "InvalidComparison" s := fun b hb => by
  rw [e_grounds]
  show Lq.ret (ckS b_grounds [some (.int 3), some t, some b, none] s) = _
  rw [ck_ok H]
  exact map_at (r_grounds t s) hb
theorem x_isgr (s : Store) : ∀ b, b ∈ bC ++ [eqc] → f_is_grounds [.int 3, t, b, it []] s = .ex "InvalidComparison" s := fun b hb => by
  rw [e_is_grounds]
  show Lq.ret (ckS b_is_grounds [some (.int 3), some t, some b, some (it [])] s) = _
  rw [ck_ok H]
  exact map_at (r_isgr t s) hb
theorem x_plan (s : Store) : ∀ b, b ∈ bN1 → f_is_plan [.int 3, t, b, .non] s = .ex "InvalidNumber" s := fun b hb => by
  rw [e_is_plan]
  show Lq.ret (ckS b_is_plan [some (.int 3), some t, some b, some .non, none] s) = _
  rw [ck_ok H]
  exact map_at (r_plan t s) hb
def WE (w e : Str) : Prop := e ∈ excs ∧ ∀ s, p__law_raises [.str w] s = .ok (rsd e) s
omit H in
theorem we_things : WE "things" "InvalidThings" := ⟨by decide, rs_things⟩
omit H in
theorem we_told : WE "told" "InvalidTold" := ⟨by decide, rs_told⟩
omit H in
theorem we_weights : WE "weights" "InvalidWeights" := ⟨by decide, rs_weights⟩
omit H in
theorem we_lot : WE "lot" "InvalidLot" := ⟨by decide, rs_lot⟩
omit H in
theorem we_comparison : WE "comparison" "InvalidComparison" := ⟨by decide, rs_comparison⟩
omit H in
theorem we_number : WE "number" "InvalidNumber" := ⟨by decide, rs_number⟩
omit H in
theorem we_many : WE "many" "TooMany" := ⟨by decide, rs_many⟩
def Gd (c : Cl) : Prop := WE c.word c.err ∧ ∀ s, f__law_call [.int c.how, c.args] s = .ex c.err s
theorem all_good : ∀ c, c ∈ allC t → Gd c := by
  intro c hc
  simp only [allC, List.mem_append] at hc
  rcases hc with hc | (((((((hc | hc) | hc) | hc) | hc) | hc) | hc) | hc) | hc
  · refine ⟨?_, fun s => map_at (tl_calls s) hc⟩
    obtain ⟨b, _, hc⟩ := List.mem_flatMap.mp hc
    obtain ⟨k, _, rfl⟩ := List.mem_map.mp hc
    exact we_told
  · refine ⟨?_, fun s => map_at (th_calls t s) hc⟩
    obtain ⟨b, _, hc⟩ := List.mem_flatMap.mp hc
    obtain ⟨k, _, rfl⟩ := List.mem_map.mp hc
    exact we_things
  · obtain ⟨b, hb, rfl⟩ := List.mem_map.mp hc
    exact ⟨we_weights, fun s => call3 (i := 11) (x_agrees H s b hb) (by decide) (by decide) rfl rfl⟩
  · refine ⟨?_, fun s => map_at (w2_calls s) hc⟩
    obtain ⟨b, _, hc⟩ := List.mem_flatMap.mp hc
    simp only [List.mem_cons, List.not_mem_nil, or_false] at hc
    rcases hc with rfl | rfl | rfl <;> exact we_weights
  · obtain ⟨b, hb, hc⟩ := List.mem_flatMap.mp hc
    simp only [List.mem_cons, List.not_mem_nil, or_false] at hc
    rcases hc with rfl | rfl | rfl | rfl
    · exact ⟨we_lot, fun s => map_at (l17_calls s) hb⟩
    · exact ⟨we_lot, fun s => call4 (i := 18) (x_poss1 H s b hb) (by decide) (by decide) rfl rfl⟩
    · exact ⟨we_lot, fun s => call4 (i := 18) (x_poss2 H s b hb) (by decide) (by decide) rfl rfl⟩
    · exact ⟨we_lot, fun s => call5 (x_naive1 H s b hb)⟩
  · obtain ⟨b, hb, hc⟩ := List.mem_flatMap.mp hc
    have hb' : b ∈ bC ++ [eqc] := List.mem_append_left _ hb
    simp only [List.mem_cons, List.not_mem_nil, or_false] at hc
    rcases hc with rfl | rfl | rfl | rfl
    · exact ⟨we_comparison, fun s => call3 (i := 13) (x_follows H s b hb) (by decide) (by decide) rfl rfl⟩
    · exact ⟨we_comparison, fun s => call3 (i := 14) (x_grounds H s b hb') (by decide) (by decide) rfl rfl⟩
    · exact ⟨we_comparison, fun s => call4 (i := 20) (x_isgr H s b hb') (by decide) (by decide) rfl rfl⟩
    · exact ⟨we_comparison, fun s => map_at (c21_calls s) hb⟩
  · have hb' : eqc ∈ bC ++ [eqc] := List.mem_append_right _ (by simp)
    simp only [eC', List.mem_cons, List.not_mem_nil, or_false] at hc
    rcases hc with rfl | rfl
    · exact ⟨we_comparison, fun s => call3 (i := 14) (x_grounds H s eqc hb') (by decide) (by decide) rfl rfl⟩
    · exact ⟨we_comparison, fun s => call4 (i := 20) (x_isgr H s eqc hb') (by decide) (by decide) rfl rfl⟩
  · obtain ⟨b, hb, rfl⟩ := List.mem_map.mp hc
    exact ⟨we_number, fun s => call4 (i := 19) (x_plan H s b hb) (by decide) (by decide) rfl rfl⟩
  · obtain ⟨b, hb, rfl⟩ := List.mem_map.mp hc
    exact ⟨we_number, fun s => call5 (x_naive2 H s b hb)⟩
  · refine ⟨?_, fun s => map_at (m_calls s) hc⟩
    simp only [mC, List.mem_cons, List.not_mem_nil, or_false] at hc
    rcases hc with rfl | rfl | rfl | rfl | rfl | rfl | rfl | rfl | rfl <;> exact we_many
theorem good_out {c : Cl} (g : Gd c) (s : Store) : f__law_outcome [.int c.how, c.args] s = .ok (rsd c.err) (s ++ [.exc c.err]) := by
  rw [e_out]
  exact outF_e g.1.1 (g.2 s)
end
theorem allC_len (t : PV) : (allC t).length = 804 := by kernel_rfl
theorem isb_none {t : PV} (H : Hck t) (s : Store) : f_is_balance [.int 3, t, .non] s = .ok (.bl false) s := by
  have e : f_is_balance = runF 3 (ckS (sRet (eCall 3 f_does_balance (aCons (eVar 0) (aCons (eVar 1) (aCons (eVar 2) aNil)))))) := rfl
  rw [e]
  show Lq.ret (ckS _ [some (.int 3), some t, some .non] s) = _
  rw [ck_ok H]
  kernel_rfl
theorem lot_1 (s : Store) : f_is_lot [.int 3, .tup [.int 3]] s = .ok (.bl false) s := by kernel_rfl
theorem lot_2 (s : Store) : f_is_lot [.int 3, .lst [.int 0]] s = .ok (.bl false) s := by kernel_rfl
theorem lot_3 (s : Store) : f_is_lot [.int 3, .tup [.int 0, .int 2]] s = .ok (.bl true) s := by kernel_rfl
theorem told_8 (s : Store) : f_is_told [.int 5, .tup (List.replicate 8 (.tup [.tup [.int 4], .str "=", .tup []]))] s = .ok (.bl true) s := by kernel_rfl
theorem nn_false (s : Store) : oNe (.lst []) (.lst []) s = some (.bl false) := by kernel_rfl
theorem law3_ok {told : List Cp} {s : Store} {a0 a1 a4 : Option PV} (v : Valid 3 told) (hl : told.length ≤ 8) (H : Hck (toldV told)) :
    Ok (law3 [a0, a1, some (toldV told), some (.lst ((allC (toldV told)).map clV)), a4, none, none, none] s) fun fl _ => fl = .rt (.bl true) := by
  have sz := szl
  unfold law3
  rw [e_rs, ok_seq, ok_set]
  simp only [wkA, List.set_cons_zero, List.set_cons_succ, Option.some.injEq, exists_eq_left', exists_eq_left, List.length_cons, List.length_nil, Nat.reduceAdd, Nat.reduceLeDiff, true_and, and_true, if_true, Bool.not_true, Bool.not_false, Bool.false_eq_true, if_false, decide_eq_true_eq, List.cons.injEq, ↓reduceIte]
  refine ⟨_, rfl, ?_⟩
  simp only [wipeE, List.set_cons_succ, List.set_cons_zero]
  refine ok_fmapK clV (fun _ => false) clV (fun c hc s0 K0 => ?_) fun s1 K1 => ?_
  · have g := all_good H c hc
    simp only [wkA, List.set_cons_zero, List.set_cons_succ, Option.some.injEq, exists_eq_left', exists_eq_left, List.length_cons, List.length_nil, Nat.reduceAdd, Nat.reduceLeDiff, true_and, and_true, if_true, Bool.not_true, Bool.not_false, Bool.false_eq_true, if_false, decide_eq_true_eq, List.cons.injEq, ↓reduceIte]
    refine Op.of (z := .int c.how) rfl (Op.of (z := c.args) rfl ?_)
    rw [Ok.eq (good_out H g s0)]
    refine Op.of (z := .str c.word) rfl ?_
    rw [Ok.eq (g.1.2 _)]
    refine Op.of (oNe_self (rsd_pl _) _) ?_
    exact ⟨rfl, K0.trans (Keeps.app _ _ _), fun q => by cases q⟩
  · have fz : ∀ l : List Cl, (l.filter fun _ => false).map clV = [] := fun l => by simp
    rw [fz]
    rw [nxK_nx]
    simp only [wkA, List.set_cons_zero, List.set_cons_succ, Option.some.injEq, exists_eq_left', exists_eq_left, List.length_cons, List.length_nil, Nat.reduceAdd, Nat.reduceLeDiff, true_and, and_true, if_true, Bool.not_true, Bool.not_false, Bool.false_eq_true, if_false, decide_eq_true_eq, List.cons.injEq, ↓reduceIte]
    refine Op.of (nn_false _) ?_
    simp only [Bool.false_eq_true, if_false]
    refine Op.of (z := .int 804) (by simp [oLen, asS, asL, allC_len]) ?_
    refine Op.of (z := .bl false) (by kernel_rfl) ?_
    simp only [Bool.false_eq_true, if_false]
    rw [Ok.eq (isb_none H s1)]
    simp only [Bool.false_eq_true, if_false]
    rw [Ok.eq (lot_1 s1)]
    simp only [Bool.false_eq_true, if_false]
    rw [Ok.eq (lot_2 s1)]
    simp only [Bool.false_eq_true, if_false]
    rw [nxK_nx]
    simp only [wkA, List.set_cons_zero, List.set_cons_succ, Option.some.injEq, exists_eq_left', exists_eq_left, List.length_cons, List.length_nil, Nat.reduceAdd, Nat.reduceLeDiff, true_and, and_true, if_true, Bool.not_true, Bool.not_false, Bool.false_eq_true, if_false, decide_eq_true_eq, List.cons.injEq, ↓reduceIte]
    have c1 : f_is_told [.int 3, toldV told] s1 = .ok (.bl true) s1 := is_told_sp (k := 3) (by decide) (by decide) v hl s1
    rw [Ok.eq c1]
    refine Op.of (z := .bl true) (by kernel_rfl) ?_
    simp only [if_true]
    rw [Ok.eq (lot_3 s1)]
    refine Op.of (z := .bl true) (by kernel_rfl) ?_
    simp only [if_true]
    refine Op.of (z := .tup (List.replicate 8 (.tup [.tup [.int 4], .str "=", .tup []]))) (by kernel_rfl) ?_
    rw [Ok.eq (told_8 s1)]
    exact Op.of (z := .bl true) (by kernel_rfl) rfl
theorem pure_law (ns : List Int) (hns : ns.length ≤ 63) : ∃ st, f_law [.scr ns] [] = .ok (.bl true) st := by
  have sz := szl
  have main : Ok (f_law [.scr ns] []) fun v _ => v = .bl true := by
    rw [law_eq]
    unfold runF law1
    rw [ok_retF]
    simp only [env0, List.map_cons, List.map_nil, List.length_cons, List.length_nil, Nat.reduceAdd, Nat.reduceSub, List.reduceReplicate, List.cons_append, List.nil_append]
    try simp only [wkA, List.set_cons_zero, List.set_cons_succ, Option.some.injEq, exists_eq_left', exists_eq_left, List.length_cons, List.length_nil, Nat.reduceAdd, Nat.reduceLeDiff, true_and, and_true, if_true, Bool.not_true, Bool.not_false, Bool.false_eq_true, if_false, decide_eq_true_eq, List.cons.injEq, ↓reduceIte]
    rw [Ok.eq (town_ok ns hns)]
    rw [nxK_nx]
    have T0 : Tn ns 0 [.lst ((0 :: ns).map PV.int)] := ⟨_, rfl, 0, ns, rfl, rfl, by omega, by omega⟩
    simp only [wkA, List.set_cons_zero, List.set_cons_succ, Option.some.injEq, exists_eq_left', exists_eq_left, List.length_cons, List.length_nil, Nat.reduceAdd, Nat.reduceLeDiff, true_and, and_true, if_true, Bool.not_true, Bool.not_false, Bool.false_eq_true, if_false, decide_eq_true_eq, List.cons.injEq, ↓reduceIte]
    have tl := told_sq (k := 3) (most := 8) T0 (by omega) hns (by decide) (by decide) (by decide)
    refine tl.mono fun v s1 hv => ?_
    obtain ⟨told, rfl, hl, hv, T1, K1⟩ := hv
    have e1 : ∃ c, s1 = [.lst c] := by
      obtain ⟨c, a, _⟩ := T1
      have l1 := K1.l
      match s1, l1, a with
      | [x], _, a => exact ⟨c, by simpa using a⟩
    obtain ⟨c, rfl⟩ := e1
    have H : Hck (toldV told) := fun s => check_told_sp (k := 3) (by decide) (by decide) hv hl s
    rw [nxK_nx]
    rw [law2_X, law2X_eq]
    refine (law3_ok hv hl H).mono fun fl s h => ?_
    subst h
    rfl
  obtain ⟨v, s, e, rfl⟩ := main
  exact ⟨s, e⟩
end Gk01
end
section
set_option Elab.async false
set_option linter.all false
open PySem PySem.W PySem.Calls PyProof.Rows
set_option maxRecDepth 100000 in
set_option maxHeartbeats 0 in
theorem PySem.Challenge.cw_lotscales_k01_argument_ends_holds : PySem.Challenge.rw_lotscales_k01_argument_ends.Holds := by
  w_on; o_law
  refine HandSHeadRun.head_any (r := OpenLaw.row PySem.Challenge.rw_lotscales_k01_argument_ends) (q := view (OpenLaw.row PySem.Challenge.rw_lotscales_k01_argument_ends).prog [110]) (H := Gk01.hk) (ob := Gk01.ob) (M := 6000) (loose := Gk01.loose) (d := HandSHeadRun.topDef (OpenLaw.row PySem.Challenge.rw_lotscales_k01_argument_ends).prog 110) (kwd := [])
    (fun s => Lq.obL_eq s) (by kernel_rfl) (fun s => by kernel_rfl) Gk01.run (by kernel_rfl) (by kernel_rfl) (by kernel_rfl) (by rfl) (by first | assumption | decide +kernel) (by decide +kernel) ⟨rfl, rfl, rfl, rfl, rfl, by decide +kernel⟩ ?hw ?hc
  case hw => w_witness2
  case hc =>
    refine L2.walk_ofE (l := PySem.Challenge.rw_lotscales_k01_argument_ends) (n := 63) (k := 11) (x := "script") (CX := L2.CX0) rfl (by decide) (by kernel_rfl) ⟨rfl, by decide, by decide⟩ ?F (fun _ _ _ _ z => z)
    intro w mg fa h Y Gn hmg0
    obtain ⟨K, KX, c, e⟩ := Y
    have hmg : mg ("law" : PySem.Str) = some (.ref fa) := by
      have e : (HandSHeadRun.topDef (OpenLaw.row PySem.Challenge.rw_lotscales_k01_argument_ends).prog 110).name = ("law" : PySem.Str) := by kernel_rfl
      rw [← e]
      exact hmg0
    have G := Lq.fx_of (q := Gk01.qs) KX Gn c e
    obtain ⟨fd, F⟩ := G.def_ 53 (d := Gk01.d53) rfl rfl rfl
    have b := L2.FunD.bindsA (ps := ["script"]) F fun _ _ _ _ _ _ us hl => match us, hl with | [_], _ => rfl
    have ef := hmg.symm.trans (G.glo 54 rfl)
    cases ef
    exact ⟨K, fd, fun vs H Q _ => Lq.spF K mg 1 Gk01.f_law vs H Q L2.E0, KX, fun s v => b s [v] rfl, fun H a ns hl _ hS => Lq.law_sp hS (Nat.le_trans hl (by decide)) (Gk01.pure_law ns hl), fun base _ _ => Lq.fn_calm (Gk01.law_fn G F)⟩
end
