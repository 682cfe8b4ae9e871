import PyProof.Rows.All
import Wide.All
import OpenK.AllK
import Wide.FinOn
import KE.KStateDown
import Lean
import HandS.ForMost
import HandS.Walk
import KE.KDictKeyed
import KE.KDictCopyH
import KE.SortData
import HandS.Wide
import HandS.IsInst
import HandS.Deep
import HandS.TupAny
import HandS.Flow
import HandS.Style
import HandS.TupLe
import HandS.NoneIn
import KE.GoesEnum
import KE.GoesNew
import HandS.Iter
import HandS.More
import KE.KDictWalk
import KE.GoesDict
import KE.KDictDisplayH
import KE.GoesSet
import HandS.Comp
import HandS.Codes
import HandS.Defaults
import KE.KDictSum
import PyProof.TupleOfSeq
import HandS.Head0
import HandS.Head1
import HandS.Head2
import HandS.HeadEnd
import HandS.HeadHook1
import HandS.HeadHook2
import PySem.Challenge.RW_levelskins_k44_what_is_a_nest
set_option Elab.async false
set_option linter.all false
set_option maxRecDepth 100000
set_option maxHeartbeats 0
set_option autoImplicit false
namespace Pv
open PySem PySem.Spec PyProof.Rows L2

/-! ### data -/
inductive D where
  | non | bl (b : Bool) | int (i : Int) | str (x : Str) | scr (ds : List D)
  | tup (ds : List D) | lst (ds : List D) | dct (t : Bool) (ks vs : List D) | set (t : Bool) (ks : List D) | ref (n : Nat)
inductive SO where
  | lst (ds : List D) | dct (t : Bool) (ks vs : List D) | dead
abbrev Sto := List SO
abbrev Env := List (Option D)

mutual
def keyOf : D → Option NestedKey
  | .non => some .none
  | .bl b => some (.num (if b = true then 1 else 0))
  | .int i => some (.num i)
  | .str x => some (.text x)
  | .tup ds => match keysOf ds with
    | some ks => some (.tup ks)
    | none => none
  | .lst _ => none
  | .dct _ _ _ => none
  | .set _ _ => none
  | .scr _ => none
  | .ref _ => none
def keysOf : List D → Option (List NestedKey)
  | [] => some []
  | d :: ds => match keyOf d, keysOf ds with
    | some k, some ks => some (k :: ks)
    | _, _ => none
end
mutual
def toPd : D → PyData
  | .non => .none
  | .bl b => .bool b
  | .int i => .int i
  | .str x => .str x
  | .tup ds => .tuple (toPds ds)
  | .lst ds => .list (toPds ds)
  | .dct _ _ _ => .dict [(.none, .none), (.none, .none)]
  | .set _ _ => .dict [(.none, .none), (.none, .none)]
  | .scr _ => .dict [(.none, .none), (.none, .none)]
  | .ref _ => .dict [(.none, .none), (.none, .none)]
def toPds : List D → List PyData
  | [] => []
  | d :: ds => toPd d :: toPds ds
end
mutual
/-- nested none, bools, ints, texts, tuples, lists -/
def isPd : D → Bool
  | .non => true
  | .bl _ => true
  | .int _ => true
  | .str _ => true
  | .tup ds => isPds ds
  | .lst ds => isPds ds
  | .dct _ _ _ => false
  | .set _ _ => false
  | .scr _ => false
  | .ref _ => false
def isPds : List D → Bool
  | [] => true
  | d :: ds => isPd d && isPds ds
end
def isTup : D → Bool
  | .tup _ => true
  | _ => false

/-! ### where it stands -/
structure Wd where
  /-- the addresses of the pure store's objects (none: no longer followed) -/
  mu : List (Option Addr)
  /-- other addresses that no data lean on -/
  pi : Addr → Prop
def Wd.pr (W : Wd) (a : Addr) : Prop := some a ∈ W.mu ∨ W.pi a

/-- an entry of a dict: hash, key, value -/
def EntR (x : Int × V × V) (e : DictEntry) : Prop := e.hash = x.1 ∧ RelV x.2.1 e.key ∧ RelV x.2.2 e.val
def ents : List Int → List V → List V → List (Int × V × V)
  | h :: hs, k :: ks, v :: vs => (h, k, v) :: ents hs ks vs
  | _, _, _ => []
def DictIs (a : Addr) (hs : List Int) (ks vs : List V) (ep : Nat) (h : Heap) : Prop :=
  (a == sysModules) = false ∧ ks.length ≤ sizeLine ∧ ∃ o es, h.get? a = some o ∧ o.ExactDict ∧ o.data = .dict es ep ∧ Paired EntR (ents hs ks vs) es.toList
def dObj (a : Addr) (hs : List Int) (ks vs : List V) (ep : Nat) : HO := .ext (DictIs a hs ks vs ep)
theorem DictIs.stable {a : Addr} {hs : List Int} {ks vs : List V} {ep : Nat} (h1 h2 : Heap) (x : DictIs a hs ks vs ep h1) (k : ∀ o, h1.get? a = some o → h2.get? a = some o) : DictIs a hs ks vs ep h2 := by
  obtain ⟨n, z, o, es, e, r⟩ := x
  exact ⟨n, z, o, es, k o e, r⟩

/-- the keys of a dict: unlike, of one sort (tuples, or no tuples), not too deep -/
structure DOk (t : Bool) (ks vs : List D) : Prop where
  len : ks.length = vs.length
  nd : (ks.map keyOf).Nodup
  key : ∀ k ∈ ks, isTup k = t ∧ ∃ nk, keyOf k = some nk ∧ nk.depth ≤ 8
def hashOf (w : World) (d : D) : Int := ((keyOf d).getD .none).hash w

section
variable (K : PySem.W.Frag) (w : World) (H : Hp) (W : Wd)
mutual
inductive Rep : D → V → Prop
  | non : Rep .non .non
  | bl (b : Bool) : Rep (.bl b) (.bl b)
  | int (i : Int) : Rep (.int i) (.int i)
  | str (x : Str) : Rep (.str x) (.str x)
  | tup {ds : List D} {a : Addr} {vs : List V} : ¬ W.pr a → H a = some (.tup vs) → RepL ds vs → Rep (.tup ds) (.ref a)
  | tupK {ds : List D} {a : Addr} {vs : List V} : (∀ H, SqT K H a vs) → RepL ds vs → Rep (.tup ds) (.ref a)
  | lst {ds : List D} {a : Addr} {vs : List V} : ¬ W.pr a → H a = some (.lst vs) → RepL ds vs → Rep (.lst ds) (.ref a)
  | scr {ds : List D} {a : Addr} {o : Obj} {vs : List V} : ¬ W.pr a → H a = some (.frz o (.lst vs)) → RepL ds vs → Rep (.scr ds) (.ref a)
  | scrK {ds : List D} {a : Addr} {vs : List V} : (∀ H, SqL K H a vs) → RepL ds vs → Rep (.scr ds) (.ref a)
  | dct {t : Bool} {ks vs : List D} {a : Addr} {kV vV : List V} {ep : Nat} : ¬ W.pr a → H a = some (dObj a (ks.map (hashOf w)) kV vV ep) → DOk t ks vs → RepL ks kV → RepL vs vV → Rep (.dct t ks vs) (.ref a)
  | ref {n : Nat} {v : V} : (∀ a, W.mu[n]? = some (some a) → v = .ref a) → n < W.mu.length → Rep (.ref n) v
inductive RepL : List D → List V → Prop
  | nil : RepL [] []
  | cons {d : D} {v : V} {ds : List D} {vs : List V} : Rep d v → RepL ds vs → RepL (d :: ds) (v :: vs)
end
end

variable {K : PySem.W.Frag} {w : World} {H H' H1 H2 : Hp} {W W' W1 W2 : Wd}
theorem RepL.length : ∀ {ds : List D} {vs : List V}, RepL K w H W ds vs → ds.length = vs.length
  | _, _, .nil => rfl
  | _, _, .cons _ t => by rw [List.length_cons, List.length_cons, RepL.length t]
theorem RepL.get : ∀ {ds : List D} {vs : List V} {i : Nat} {d : D}, RepL K w H W ds vs → ds[i]? = some d → ∃ v, vs[i]? = some v ∧ Rep K w H W d v
  | _, _, _, _, .nil, e => by simp at e
  | _, _, 0, _, .cons r _, e => by simp at e; subst e; exact ⟨_, rfl, r⟩
  | _, _, i + 1, d, .cons _ t, e => by
    obtain ⟨v, h1, h2⟩ := RepL.get (i := i) (d := d) t (by simpa using e)
    exact ⟨v, by simpa using h1, h2⟩
theorem RepL.get' : ∀ {ds : List D} {vs : List V} {i : Nat} {v : V}, RepL K w H W ds vs → vs[i]? = some v → ∃ d, ds[i]? = some d ∧ Rep K w H W d v
  | _, _, _, _, .nil, e => by simp at e
  | _, _, 0, _, .cons r _, e => by simp at e; subst e; exact ⟨_, rfl, r⟩
  | _, _, i + 1, d, .cons _ t, e => by
    obtain ⟨v, h1, h2⟩ := RepL.get' (i := i) (v := d) t (by simpa using e)
    exact ⟨v, by simpa using h1, h2⟩
theorem RepL.append : ∀ {ds es : List D} {vs us : List V}, RepL K w H W ds vs → RepL K w H W es us → RepL K w H W (ds ++ es) (vs ++ us)
  | _, _, _, _, .nil, s => s
  | _, _, _, _, .cons r t, s => .cons r (RepL.append t s)
theorem RepL.take : ∀ {ds : List D} {vs : List V} (n : Nat), RepL K w H W ds vs → RepL K w H W (ds.take n) (vs.take n)
  | _, _, 0, _ => .nil
  | _, _, _ + 1, .nil => .nil
  | _, _, n + 1, .cons r t => .cons r (RepL.take n t)
theorem RepL.drop : ∀ {ds : List D} {vs : List V} (n : Nat), RepL K w H W ds vs → RepL K w H W (ds.drop n) (vs.drop n)
  | _, _, 0, r => r
  | _, _, _ + 1, .nil => .nil
  | _, _, n + 1, .cons _ t => RepL.drop n t
theorem RepL.set {d : D} {v : V} (r : Rep K w H W d v) : ∀ {ds : List D} {vs : List V} (i : Nat), RepL K w H W ds vs → RepL K w H W (ds.set i d) (vs.set i v)
  | _, _, _, .nil => .nil
  | _, _, 0, .cons _ t => .cons r t
  | _, _, i + 1, .cons q t => .cons q (RepL.set r i t)
theorem RepL.reverse : ∀ {ds : List D} {vs : List V}, RepL K w H W ds vs → RepL K w H W ds.reverse vs.reverse
  | _, _, .nil => .nil
  | _, _, .cons r t => by
    rw [List.reverse_cons, List.reverse_cons]
    exact (RepL.reverse t).append (.cons r .nil)
theorem RepL.mem : ∀ {ds : List D} {vs : List V} {d : D}, RepL K w H W ds vs → d ∈ ds → ∃ v, v ∈ vs ∧ Rep K w H W d v
  | _, _, d, r, h => by
    obtain ⟨i, e⟩ := List.mem_iff_getElem?.mp h
    obtain ⟨v, e', r'⟩ := r.get e
    exact ⟨v, List.mem_iff_getElem?.mpr ⟨i, e'⟩, r'⟩

/-- what a step of the program may do to the heap and to what is followed -/
structure HExt (H : Hp) (W : Wd) (H' : Hp) (W' : Wd) : Prop where
  pi : W'.pi = W.pi
  len : W.mu.length ≤ W'.mu.length
  old : ∀ (n : Nat) (a : Addr), n < W.mu.length → W'.mu[n]? = some (some a) → W.mu[n]? = some (some a)
  new : ∀ (n : Nat) (a : Addr), W.mu.length ≤ n → W'.mu[n]? = some (some a) → H a = none
  keep : ∀ a o, H a = some o → some a ∉ W.mu → H' a = some o
  held : ∀ a o, H a = some o → ∃ o', H' a = some o'
theorem HExt.refl (H : Hp) (W : Wd) : HExt H W H W where
  pi := rfl
  len := Nat.le_refl _
  old := fun _ _ _ e => e
  new := fun n a h e => by rw [List.getElem?_eq_none h] at e; cases e
  keep := fun _ _ h _ => h
  held := fun _ o h => ⟨o, h⟩
theorem HExt.mem (x : HExt H W H' W') {a : Addr} (h : some a ∈ W'.mu) : some a ∈ W.mu ∨ H a = none := by
  obtain ⟨n, e⟩ := List.mem_iff_getElem?.mp h
  by_cases hn : n < W.mu.length
  · exact .inl (List.mem_iff_getElem?.mpr ⟨n, x.old n a hn e⟩)
  · exact .inr (x.new n a (Nat.le_of_not_lt hn) e)
theorem HExt.trans (x : HExt H W H1 W1) (y : HExt H1 W1 H2 W2) : HExt H W H2 W2 where
  pi := y.pi.trans x.pi
  len := Nat.le_trans x.len y.len
  old := fun n a h e => x.old n a h (y.old n a (Nat.lt_of_lt_of_le h x.len) e)
  new := fun n a h e => by
    by_cases hn : n < W1.mu.length
    · exact x.new n a h (y.old n a hn e)
    · have q := y.new n a (Nat.le_of_not_lt hn) e
      cases r : H a with
      | none => rfl
      | some o =>
        obtain ⟨o', e'⟩ := x.held a o r
        rw [q] at e'; cases e'
  keep := fun a o h hm => y.keep a o (x.keep a o h hm) fun z => by
    rcases x.mem z with z | z
    · exact hm z
    · rw [h] at z; cases z
  held := fun a o h => by
    obtain ⟨o', e⟩ := x.held a o h
    exact y.held a o' e
theorem HExt.pr (x : HExt H W H' W') {a : Addr} {o : HO} (h : H a = some o) (n : ¬ W.pr a) : H' a = some o ∧ ¬ W'.pr a := by
  have hm : some a ∉ W.mu := fun z => n (.inl z)
  refine ⟨x.keep a o h hm, fun z => ?_⟩
  rcases z with z | z
  · rcases x.mem z with z | z
    · exact hm z
    · rw [h] at z; cases z
  · rw [x.pi] at z
    exact n (.inr z)
/-- what a value needs to go on standing -/
structure RM (H : Hp) (W : Wd) (H' : Hp) (W' : Wd) : Prop where
  len : W.mu.length ≤ W'.mu.length
  old : ∀ (n : Nat) (a : Addr), n < W.mu.length → W'.mu[n]? = some (some a) → W.mu[n]? = some (some a)
  pr : ∀ a o, H a = some o → ¬ W.pr a → H' a = some o ∧ ¬ W'.pr a
theorem HExt.rm (x : HExt H W H' W') : RM H W H' W' := ⟨x.len, x.old, fun _ _ h n => x.pr h n⟩
mutual
theorem Rep.rm (x : RM H W H' W') : ∀ (d : D) (v : V), Rep K w H W d v → Rep K w H' W' d v
  | .non, _, r => by cases r; exact .non
  | .bl _, _, r => by cases r; exact .bl _
  | .int _, _, r => by cases r; exact .int _
  | .str _, _, r => by cases r; exact .str _
  | .tup ds, _, r => by
    cases r with
    | tup n h l => exact .tup (x.pr _ _ h n).2 (x.pr _ _ h n).1 (RepL.rm x ds _ l)
    | tupK h l => exact .tupK h (RepL.rm x ds _ l)
  | .lst ds, _, r => by
    cases r with
    | lst n h l => exact .lst (x.pr _ _ h n).2 (x.pr _ _ h n).1 (RepL.rm x ds _ l)
  | .dct t ks vs, _, r => by
    cases r with
    | dct n h ok l m => exact .dct (x.pr _ _ h n).2 (x.pr _ _ h n).1 ok (RepL.rm x ks _ l) (RepL.rm x vs _ m)
  | .set _ _, _, r => by cases r
  | .scr ds, _, r => by
    cases r with
    | scr n h l => exact .scr (x.pr _ _ h n).2 (x.pr _ _ h n).1 (RepL.rm x ds _ l)
    | scrK h l => exact .scrK h (RepL.rm x ds _ l)
  | .ref n, v, r => by
    cases r with
    | ref h hl => exact .ref (fun a e => h a (x.old n a hl e)) (Nat.lt_of_lt_of_le hl x.len)
theorem RepL.rm (x : RM H W H' W') : ∀ (ds : List D) (vs : List V), RepL K w H W ds vs → RepL K w H' W' ds vs
  | [], _, r => by cases r; exact .nil
  | d :: ds, _, r => by
    cases r with
    | cons h t => exact .cons (Rep.rm x d _ h) (RepL.rm x ds _ t)
end

theorem Rep.mono (x : HExt H W H' W') (d : D) (v : V) (r : Rep K w H W d v) : Rep K w H' W' d v := Rep.rm x.rm d v r
theorem RepL.mono (x : HExt H W H' W') (ds : List D) (vs : List V) (r : RepL K w H W ds vs) : RepL K w H' W' ds vs := RepL.rm x.rm ds vs r

/-! ### the pure store -/
inductive SoR (K : PySem.W.Frag) (w : World) (H : Hp) (W : Wd) : SO → Addr → Prop
  | lst {ds : List D} {a : Addr} {vs : List V} : H a = some (.lst vs) → RepL K w H W ds vs → SoR K w H W (.lst ds) a
  | dct {t : Bool} {ks vs : List D} {a : Addr} {kV vV : List V} {ep : Nat} : H a = some (dObj a (ks.map (hashOf w)) kV vV ep) → DOk t ks vs → RepL K w H W ks kV → RepL K w H W vs vV → SoR K w H W (.dct t ks vs) a
structure StoR (K : PySem.W.Frag) (w : World) (H : Hp) (W : Wd) (st : Sto) : Prop where
  len : W.mu.length = st.length
  so : ∀ (n : Nat) (a : Addr), W.mu[n]? = some (some a) → ∃ so : SO, st[n]? = some so ∧ SoR K w H W so a
  dead : ∀ (n : Nat), W.mu[n]? = some none → st[n]? = some .dead
  inj : ∀ (n m : Nat) (a : Addr), W.mu[n]? = some (some a) → W.mu[m]? = some (some a) → n = m
  npi : ∀ a, some a ∈ W.mu → ¬ W.pi a
  pih : ∀ a, W.pi a → ∃ o, H a = some o
/-- the slots -/
structure EnvR (K : PySem.W.Frag) (w : World) (H : Hp) (W : Wd) (σ : L2.St) (env : Env) : Prop where
  len : σ.length = env.length
  at_ : ∀ (i : Nat) (d : D), env[i]? = some (some d) → ∃ v : V, σ[i]? = some (some v) ∧ Rep K w H W d v
theorem EnvR.mono {σ : L2.St} {env : Env} (x : HExt H W H' W') (e : EnvR K w H W σ env) : EnvR K w H' W' σ env :=
  ⟨e.len, fun i d h => let ⟨v, h1, h2⟩ := e.at_ i d h; ⟨v, h1, Rep.mono x d v h2⟩⟩
theorem StoR.live {st : Sto} (s : StoR K w H W st) {n : Nat} {so : SO} (h : st[n]? = some so) (nd : so ≠ .dead) : ∃ a, W.mu[n]? = some (some a) ∧ SoR K w H W so a := by
  have hn : n < W.mu.length := by rw [s.len]; exact (List.getElem?_eq_some_iff.mp h).1
  cases e : W.mu[n]? with
  | none => rw [List.getElem?_eq_none_iff] at e; omega
  | some oa =>
    cases oa with
    | none => rw [s.dead n e] at h; cases h; exact absurd rfl nd
    | some a =>
      obtain ⟨so', h', r⟩ := s.so n a e
      rw [h] at h'; cases h'
      exact ⟨a, rfl, r⟩
theorem SoR.has {so : SO} {a : Addr} (r : SoR K w H W so a) : ∃ o, H a = some o := by
  cases r with
  | lst h _ => exact ⟨_, h⟩
  | dct h _ _ _ => exact ⟨_, h⟩
theorem SoR.rm {so : SO} {a : Addr} (x : RM H W H' W') (same : ∀ o, H a = some o → H' a = some o) (r : SoR K w H W so a) : SoR K w H' W' so a := by
  cases r with
  | lst h l => exact .lst (same _ h) (RepL.rm x _ _ l)
  | dct h ok l m => exact .dct (same _ h) ok (RepL.rm x _ _ l) (RepL.rm x _ _ m)
theorem EnvR.rm {σ : L2.St} {env : Env} (x : RM H W H' W') (e : EnvR K w H W σ env) : EnvR K w H' W' σ env :=
  ⟨e.len, fun i d h => let ⟨v, h1, h2⟩ := e.at_ i d h; ⟨v, h1, Rep.rm x d v h2⟩⟩
theorem SoR.mono {so : SO} {a : Addr} (x : HExt H W H' W') (same : ∀ o, H a = some o → H' a = some o) (r : SoR K w H W so a) : SoR K w H' W' so a := by
  cases r with
  | lst h l => exact .lst (same _ h) (RepL.mono x _ _ l)
  | dct h ok l m => exact .dct (same _ h) ok (RepL.mono x _ _ l) (RepL.mono x _ _ m)
/-- a new object that is not followed -/
theorem HExt.upd {p : Addr} {o : HO} (h : H p = none) : HExt H W (L2.upd H p o) W where
  pi := rfl
  len := Nat.le_refl _
  old := fun _ _ _ e => e
  new := fun n a h e => by rw [List.getElem?_eq_none h] at e; cases e
  keep := fun a o e _ => by rw [upd_ne (ne_of_none e h)]; exact e
  held := fun a o e => ⟨o, by rw [upd_ne (ne_of_none e h)]; exact e⟩
theorem StoR.ext {st : Sto} (x : HExt H W H' W) (same : ∀ a o, H a = some o → H' a = some o) (s : StoR K w H W st) : StoR K w H' W st :=
  ⟨s.len, fun n a e => let ⟨so, h, r⟩ := s.so n a e; ⟨so, h, r.mono x (same a)⟩, s.dead, s.inj, s.npi, fun a h => let ⟨o, e⟩ := s.pih a h; ⟨o, same a o e⟩⟩
theorem StoR.upd {st : Sto} {p : Addr} {o : HO} (h : H p = none) (s : StoR K w H W st) : StoR K w (L2.upd H p o) W st :=
  s.ext (.upd h) fun a o e => by rw [upd_ne (ne_of_none e h)]; exact e
theorem StoR.npr {st : Sto} (s : StoR K w H W st) {p : Addr} (h : H p = none) : ¬ W.pr p := fun z => by
  rcases z with z | z
  · obtain ⟨n, e⟩ := List.mem_iff_getElem?.mp z
    obtain ⟨so, _, r⟩ := s.so n p e
    obtain ⟨o, r⟩ := r.has
    rw [h] at r; cases r
  · obtain ⟨o, e⟩ := s.pih p z
    rw [h] at e; cases e

/-! ### the store's changes -/
/-- a new object that is followed -/
abbrev Wd.add (W : Wd) (p : Addr) : Wd := { W with mu := W.mu ++ [some p] }
theorem HExt.alloc {p : Addr} {o : HO} (h : H p = none) : HExt H W (L2.upd H p o) (W.add p) where
  pi := rfl
  len := by show W.mu.length ≤ (W.mu ++ [some p]).length; rw [List.length_append]; omega
  old := fun n a hn e => by
    have e : (W.mu ++ [some p])[n]? = some (some a) := e
    rw [List.getElem?_append_left hn] at e
    exact e
  new := fun n a hn e => by
    have e : (W.mu ++ [some p])[n]? = some (some a) := e
    rw [List.getElem?_append_right hn] at e
    cases q : n - W.mu.length with
    | zero => rw [q] at e; simp at e; rw [← e]; exact h
    | succ m => rw [q] at e; simp at e
  keep := fun a o e _ => by rw [upd_ne (ne_of_none e h)]; exact e
  held := fun a o e => ⟨o, by rw [upd_ne (ne_of_none e h)]; exact e⟩
theorem StoR.alloc {st : Sto} {p : Addr} {o : HO} {so : SO} (h : H p = none) (s : StoR K w H W st) (r : SoR K w (L2.upd H p o) (W.add p) so p) : StoR K w (L2.upd H p o) (W.add p) (st ++ [so]) where
  len := by show (W.mu ++ [some p]).length = _; rw [List.length_append, List.length_append, s.len]; rfl
  so := fun n a e => by
    have e : (W.mu ++ [some p])[n]? = some (some a) := e
    by_cases hn : n < W.mu.length
    · rw [List.getElem?_append_left hn] at e
      obtain ⟨so', h1, h2⟩ := s.so n a e
      exact ⟨so', by rw [List.getElem?_append_left (by rw [← s.len]; exact hn)]; exact h1, h2.mono (.alloc h) fun o e => by rw [upd_ne (ne_of_none e h)]; exact e⟩
    · rw [List.getElem?_append_right (Nat.le_of_not_lt hn)] at e
      cases q : n - W.mu.length with
      | zero =>
        rw [q] at e; simp at e; subst e
        exact ⟨so, by rw [List.getElem?_append_right (by rw [← s.len]; exact Nat.le_of_not_lt hn), ← s.len, q]; rfl, r⟩
      | succ m => rw [q] at e; simp at e
  dead := fun n e => by
    have e : (W.mu ++ [some p])[n]? = some none := e
    by_cases hn : n < W.mu.length
    · rw [List.getElem?_append_left hn] at e
      rw [List.getElem?_append_left (by rw [← s.len]; exact hn)]
      exact s.dead n e
    · rw [List.getElem?_append_right (Nat.le_of_not_lt hn)] at e
      cases q : n - W.mu.length with
      | zero => rw [q] at e; simp at e
      | succ m => rw [q] at e; simp at e
  inj := fun n m a e1 e2 => by
    have e1 : (W.mu ++ [some p])[n]? = some (some a) := e1
    have e2 : (W.mu ++ [some p])[m]? = some (some a) := e2
    have old : ∀ i, (W.mu ++ [some p])[i]? = some (some a) → (i < W.mu.length ∧ W.mu[i]? = some (some a)) ∨ (i = W.mu.length ∧ a = p) := fun i e => by
      by_cases hn : i < W.mu.length
      · rw [List.getElem?_append_left hn] at e; exact .inl ⟨hn, e⟩
      · rw [List.getElem?_append_right (Nat.le_of_not_lt hn)] at e
        cases q : i - W.mu.length with
        | zero => rw [q] at e; simp at e; exact .inr ⟨by omega, e.symm⟩
        | succ m => rw [q] at e; simp at e
    have no : ∀ i, W.mu[i]? = some (some p) → False := fun i e => by
      obtain ⟨so, _, r⟩ := s.so i p e
      obtain ⟨o, r⟩ := r.has
      rw [h] at r; cases r
    rcases old n e1 with ⟨h1, k1⟩ | ⟨h1, k1⟩ <;> rcases old m e2 with ⟨h2, k2⟩ | ⟨h2, k2⟩
    · exact s.inj n m a k1 k2
    · rw [k2] at k1; exact (no _ k1).elim
    · rw [k1] at k2; exact (no _ k2).elim
    · rw [h1, h2]
  npi := fun a e z => by
    have e : some a ∈ W.mu ++ [some p] := e
    rcases List.mem_append.mp e with e | e
    · exact s.npi a e z
    · simp at e; subst e
      obtain ⟨o, q⟩ := s.pih a z
      rw [h] at q; cases q
  pih := fun a z => by
    obtain ⟨o, q⟩ := s.pih a z
    exact ⟨o, by rw [upd_ne (ne_of_none q h)]; exact q⟩
/-- an object that is followed is changed -/
theorem HExt.write {a : Addr} {o : HO} (hm : some a ∈ W.mu) : HExt H W (L2.upd H a o) W where
  pi := rfl
  len := Nat.le_refl _
  old := fun _ _ _ e => e
  new := fun n a h e => by rw [List.getElem?_eq_none h] at e; cases e
  keep := fun b o e hb => by rw [upd_ne (fun z => hb (by rw [z]; exact hm))]; exact e
  held := fun b o e => by
    by_cases hb : b = a
    · subst hb; exact ⟨_, upd_same⟩
    · exact ⟨o, by rw [upd_ne hb]; exact e⟩
theorem StoR.write {st : Sto} {n : Nat} {a : Addr} {o : HO} {so : SO} (s : StoR K w H W st) (hn : W.mu[n]? = some (some a)) (r : SoR K w (L2.upd H a o) W so a) : StoR K w (L2.upd H a o) W (st.set n so) where
  len := by rw [List.length_set]; exact s.len
  so := fun m b e => by
    by_cases hb : m = n
    · subst hb
      rw [hn] at e; cases e
      exact ⟨so, by rw [List.getElem?_set_self (by rw [← s.len]; exact (List.getElem?_eq_some_iff.mp hn).1)], r⟩
    · obtain ⟨so', h1, h2⟩ := s.so m b e
      have hba : b ≠ a := fun z => hb (s.inj m n a (z ▸ e) hn)
      exact ⟨so', by rw [List.getElem?_set_ne (Ne.symm hb)]; exact h1, h2.mono (.write (List.mem_iff_getElem?.mpr ⟨n, hn⟩)) fun o e => by rw [upd_ne hba]; exact e⟩
  dead := fun m e => by
    have hb : m ≠ n := fun z => by rw [z, hn] at e; cases e
    rw [List.getElem?_set_ne (Ne.symm hb)]
    exact s.dead m e
  inj := s.inj
  npi := s.npi
  pih := fun b z => by
    obtain ⟨o', q⟩ := s.pih b z
    have hb : b ≠ a := fun e => s.npi a (List.mem_iff_getElem?.mpr ⟨n, hn⟩) (e ▸ z)
    exact ⟨o', by rw [upd_ne hb]; exact q⟩

/-! ### an address that no data may lean on, for a while -/
abbrev Wd.prot (W : Wd) (p : Addr) : Wd := { W with pi := fun a => W.pi a ∨ a = p }
abbrev Wd.with (W : Wd) (f : Addr → Prop) : Wd := { W with pi := f }
theorem RM.prot {p : Addr} {o : HO} (h : H p = none) : RM H W (L2.upd H p o) (W.prot p) where
  len := Nat.le_refl _
  old := fun _ _ _ e => e
  pr := fun a u e n => by
    have hp : a ≠ p := ne_of_none e h
    refine ⟨by rw [upd_ne hp]; exact e, fun z => ?_⟩
    rcases z with z | z | z
    · exact n (.inl z)
    · exact n (.inr z)
    · exact hp z
theorem StoR.prot {st : Sto} {p : Addr} {o : HO} (h : H p = none) (s : StoR K w H W st) : StoR K w (L2.upd H p o) (W.prot p) st where
  len := s.len
  so := fun n a e => let ⟨so, h1, r⟩ := s.so n a e; ⟨so, h1, r.rm (.prot h) fun o e => by rw [upd_ne (ne_of_none e h)]; exact e⟩
  dead := s.dead
  inj := s.inj
  npi := fun a e z => by
    rcases z with z | z
    · exact s.npi a e z
    · subst z
      obtain ⟨n, e⟩ := List.mem_iff_getElem?.mp e
      obtain ⟨so, _, r⟩ := s.so n a e
      obtain ⟨o, r⟩ := r.has
      rw [h] at r; cases r
  pih := fun a z => by
    by_cases hp : a = p
    · subst hp; exact ⟨_, upd_same⟩
    · rcases z with z | z
      · obtain ⟨o', e⟩ := s.pih a z
        exact ⟨o', by rw [upd_ne hp]; exact e⟩
      · exact absurd z hp
/-- .. and what holds when it is let go, with another content -/
theorem RM.let_go {p : Addr} {o : HO} (hp : W.pi p) (f : Addr → Prop) (hf : ∀ a, f a → W.pi a) : RM H W (L2.upd H p o) (W.with f) where
  len := Nat.le_refl _
  old := fun _ _ _ e => e
  pr := fun a u e n => by
    have hne : a ≠ p := fun z => n (.inr (z ▸ hp))
    refine ⟨by rw [upd_ne hne]; exact e, fun z => ?_⟩
    rcases z with z | z
    · exact n (.inl z)
    · exact n (.inr (hf a z))
theorem StoR.let_go {st : Sto} {p : Addr} {o : HO} (hp : W.pi p) (f : Addr → Prop) (hf : ∀ a, f a → W.pi a) (s : StoR K w H W st) : StoR K w (L2.upd H p o) (W.with f) st where
  len := s.len
  so := fun n a e => let ⟨so, h1, r⟩ := s.so n a e; ⟨so, h1, r.rm (.let_go hp f hf) fun o e' => by
    have hne : a ≠ p := fun z => s.npi a (List.mem_iff_getElem?.mpr ⟨n, e⟩) (z ▸ hp)
    rw [upd_ne hne]; exact e'⟩
  dead := s.dead
  inj := s.inj
  npi := fun a e z => s.npi a e (hf a z)
  pih := fun a z => by
    by_cases h : a = p
    · subst h; exact ⟨_, upd_same⟩
    · obtain ⟨o', e⟩ := s.pih a (hf a z)
      exact ⟨o', by rw [upd_ne h]; exact e⟩
/-- the whole way: from ahead of the laying of p to behind its letting go -/
theorem HExt.around {p : Addr} {o o' : HO} (h : H p = none) (x : HExt (L2.upd H p o) (W.prot p) H2 W2) : HExt H W (L2.upd H2 p o') (W2.with W.pi) where
  pi := rfl
  len := x.len
  old := x.old
  new := fun n a hn e => by
    have q := x.new n a hn e
    by_cases hp : a = p
    · subst hp; exact h
    · rw [upd_ne hp] at q; exact q
  keep := fun a u e hm => by
    have hp : a ≠ p := ne_of_none e h
    rw [upd_ne hp]
    exact x.keep a u (by rw [upd_ne hp]; exact e) hm
  held := fun a u e => by
    have hp : a ≠ p := ne_of_none e h
    rw [upd_ne hp]
    exact x.held a u (by rw [upd_ne hp]; exact e)
theorem around_pi {p : Addr} {o : HO} (x : HExt (L2.upd H p o) (W.prot p) H2 W2) : W2.pi p ∧ ∀ a, W.pi a → W2.pi a := by
  have e : W2.pi = (W.prot p).pi := x.pi
  rw [e]
  exact ⟨.inr rfl, fun a h => .inl h⟩
theorem around_npr {st : Sto} {p : Addr} {o : HO} (s0 : StoR K w H W st) (h : H p = none) {st2 : Sto} (x : HExt (L2.upd H p o) (W.prot p) H2 W2) (s : StoR K w H2 W2 st2) : ¬ (W2.with W.pi).pr p := fun z => by
  rcases z with z | z
  · exact s.npi p z (around_pi x).1
  · obtain ⟨o, e⟩ := s0.pih p z
    rw [h] at e; cases e

/-! ### all but one address -/
def er (p : Addr) (H : Hp) : Hp := fun b => if b = p then none else H b
theorem er_ne {p a : Addr} (h : a ≠ p) : er p H a = H a := if_neg h
theorem er_self {p : Addr} : er p H p = none := if_pos rfl
theorem er_some {p a : Addr} {o : HO} (h : er p H a = some o) : a ≠ p ∧ H a = some o := by
  by_cases e : a = p
  · rw [e, er_self] at h; cases h
  · rw [er_ne e] at h; exact ⟨e, h⟩
theorem er_upd {p : Addr} {o : HO} : er p (L2.upd H p o) = er p H := by
  funext b
  by_cases e : b = p
  · rw [e, er_self, er_self]
  · rw [er_ne e, er_ne e, upd_ne e]
theorem er_free {p : Addr} (h : H p = none) : er p H = H := by
  funext b
  by_cases e : b = p
  · rw [e, er_self, h]
  · rw [er_ne e]
def HX (p : Addr) (H : Hp) (W : Wd) (H' : Hp) (W' : Wd) : Prop := HExt (er p H) W (er p H') W'
theorem HX.of {p : Addr} (x : HExt H W H' W') : HX p H W H' W' where
  pi := x.pi
  len := x.len
  old := x.old
  new := fun n a hn e => by
    by_cases h : a = p
    · rw [h, er_self]
    · rw [er_ne h]; exact x.new n a hn e
  keep := fun a o e hm => by
    obtain ⟨h, e⟩ := er_some e
    rw [er_ne h]; exact x.keep a o e hm
  held := fun a o e => by
    obtain ⟨h, e⟩ := er_some e
    rw [er_ne h]; exact x.held a o e
theorem HX.refl (p : Addr) (H : Hp) (W : Wd) : HX p H W H W := .of (.refl H W)
theorem HX.trans {p : Addr} (x : HX p H W H1 W1) (y : HX p H1 W1 H2 W2) : HX p H W H2 W2 := HExt.trans x y
theorem HX.upd {p : Addr} {o : HO} : HX p H W (L2.upd H p o) W := by
  unfold HX; rw [er_upd]; exact .refl _ _
theorem HX.rm {p : Addr} (hp : W.pi p) (x : HX p H W H' W') : RM H W H' W' where
  len := x.len
  old := x.old
  pr := fun a o e n => by
    have h : a ≠ p := fun z => n (.inr (z ▸ hp))
    have q := HExt.pr x (a := a) (o := o) (by rw [er_ne h]; exact e) n
    exact ⟨by have := q.1; rw [er_ne h] at this; exact this, q.2⟩
theorem HX.piq {p : Addr} (hp : W.pi p) (x : HX p H W H' W') : W'.pi p := by
  have e : W'.pi = W.pi := x.pi
  rw [e]; exact hp
theorem RM.refl (H : Hp) (W : Wd) : RM H W H W := (HExt.refl H W).rm
theorem RM.trans (x : RM H W H1 W1) (y : RM H1 W1 H2 W2) : RM H W H2 W2 where
  len := Nat.le_trans x.len y.len
  old := fun n a hn e => x.old n a hn (y.old n a (Nat.lt_of_lt_of_le hn x.len) e)
  pr := fun a o e n => let ⟨h1, h2⟩ := x.pr a o e n; y.pr a o h1 h2
/-- a store to a protected address -/
theorem StoR.wpi {st : Sto} {p : Addr} {o : HO} (hp : W.pi p) (s : StoR K w H W st) : StoR K w (L2.upd H p o) W st where
  len := s.len
  so := fun n a e => let ⟨so, h1, r⟩ := s.so n a e; ⟨so, h1, r.rm (HX.rm hp HX.upd) fun o e' => by
    have hne : a ≠ p := fun z => s.npi a (List.mem_iff_getElem?.mpr ⟨n, e⟩) (z ▸ hp)
    rw [upd_ne hne]; exact e'⟩
  dead := s.dead
  inj := s.inj
  npi := s.npi
  pih := fun a z => by
    by_cases h : a = p
    · subst h; exact ⟨_, upd_same⟩
    · obtain ⟨o', e⟩ := s.pih a z
      exact ⟨o', by rw [upd_ne h]; exact e⟩
/-- the whole way round, as HExt.around -/
theorem HX.around {p : Addr} {o0 o' : HO} (h : H p = none) (x : HX p (L2.upd H p o0) (W.prot p) H2 W2) : HExt H W (L2.upd H2 p o') (W2.with W.pi) := by
  have x : HExt (er p (L2.upd H p o0)) (W.prot p) (er p H2) W2 := x
  rw [er_upd, er_free h] at x
  exact {
    pi := rfl
    len := x.len
    old := x.old
    new := fun n a hn e => x.new n a hn e
    keep := fun a u e hm => by
      have hp : a ≠ p := ne_of_none e h
      rw [upd_ne hp]
      have q := x.keep a u e hm
      rw [er_ne hp] at q; exact q
    held := fun a u e => by
      have hp : a ≠ p := ne_of_none e h
      rw [upd_ne hp]
      have q := x.held a u e
      rw [er_ne hp] at q; exact q }

/-! ### what a value is seen as -/
def look (st : Sto) : D → D
  | .ref n => match st[n]? with
    | some (.lst ds) => .lst ds
    | some (.dct t ks vs) => .dct t ks vs
    | _ => .ref n
  | d => d
theorem Rep.ref_at {st : Sto} {n : Nat} {v : V} {so : SO} (S : StoR K w H W st) (r : Rep K w H W (.ref n) v) (h : st[n]? = some so) (nd : so ≠ .dead) : ∃ a, v = .ref a ∧ W.mu[n]? = some (some a) ∧ SoR K w H W so a := by
  obtain ⟨a, h1, h2⟩ := S.live h nd
  cases r with
  | ref q _ => exact ⟨a, q a h1, h1, h2⟩
theorem look_inv {st : Sto} {d e : D} (h : look st d = e) : d = e ∨ ∃ n, d = .ref n ∧ ((∃ ds, st[n]? = some (SO.lst ds) ∧ e = .lst ds) ∨ (∃ t ks vs, st[n]? = some (SO.dct t ks vs) ∧ e = .dct t ks vs)) := by
  cases d with
  | ref n =>
    have h : (match st[n]? with
      | some (.lst ds) => D.lst ds
      | some (.dct t ks vs) => .dct t ks vs
      | _ => .ref n) = e := h
    split at h
    · rename_i ds q
      exact .inr ⟨n, rfl, .inl ⟨ds, q, h.symm⟩⟩
    · rename_i t ks vs q
      exact .inr ⟨n, rfl, .inr ⟨t, ks, vs, q, h.symm⟩⟩
    · exact .inl h
  | _ => exact .inl h
theorem look_lst {st : Sto} {d : D} {v : V} {ds : List D} (S : StoR K w H W st) (r : Rep K w H W d v) (h : look st d = .lst ds) : ∃ a vs, v = .ref a ∧ H a = some (.lst vs) ∧ RepL K w H W ds vs := by
  rcases look_inv h with rfl | ⟨n, rfl, ⟨es, q, e⟩ | ⟨t, ks, vs, q, e⟩⟩
  · cases r with
    | lst _ h1 h2 => exact ⟨_, _, rfl, h1, h2⟩
  · cases e
    obtain ⟨a, rfl, _, q⟩ := r.ref_at S q (by intro z; cases z)
    cases q with
    | lst h1 h2 => exact ⟨_, _, rfl, h1, h2⟩
  · cases e
theorem look_tup {st : Sto} {d : D} {v : V} {ds : List D} (r : Rep K w H W d v) (h : look st d = .tup ds) : ∃ a vs, v = .ref a ∧ SqT K H a vs ∧ RepL K w H W ds vs := by
  rcases look_inv h with rfl | ⟨n, rfl, ⟨es, q, e⟩ | ⟨t, ks, vs, q, e⟩⟩
  · cases r with
    | tup _ h1 h2 => exact ⟨_, _, rfl, .of h1, h2⟩
    | tupK h1 h2 => exact ⟨_, _, rfl, h1 H, h2⟩
  · cases e
  · cases e
theorem look_dct {st : Sto} {d : D} {v : V} {t : Bool} {ks vs : List D} (S : StoR K w H W st) (r : Rep K w H W d v) (h : look st d = .dct t ks vs) : ∃ a kV vV ep, v = .ref a ∧ H a = some (dObj a (ks.map (hashOf w)) kV vV ep) ∧ DOk t ks vs ∧ RepL K w H W ks kV ∧ RepL K w H W vs vV := by
  rcases look_inv h with rfl | ⟨n, rfl, ⟨es, q, e⟩ | ⟨t', ks', vs', q, e⟩⟩
  · cases r with
    | dct _ h1 ok h2 h3 => exact ⟨_, _, _, _, rfl, h1, ok, h2, h3⟩
  · cases e
  · cases e
    obtain ⟨a, rfl, _, q⟩ := r.ref_at S q (by intro z; cases z)
    cases q with
    | dct h1 ok h2 h3 => exact ⟨_, _, _, _, rfl, h1, ok, h2, h3⟩
theorem look_flat {st : Sto} {d e : D} (h : look st d = e) (h1 : ∀ ds, e ≠ .lst ds) (h2 : ∀ t ks vs, e ≠ .dct t ks vs) : d = e := by
  rcases look_inv h with rfl | ⟨n, rfl, ⟨es, q, e⟩ | ⟨t, ks, vs, q, e⟩⟩
  · rfl
  · exact absurd e (h1 _)
  · exact absurd e (h2 _ _ _)
theorem look_int {st : Sto} {d : D} {v : V} {i : Int} (r : Rep K w H W d v) (h : look st d = .int i) : v = .int i := by
  cases look_flat h (fun _ z => by cases z) (fun _ _ _ z => by cases z); cases r; rfl
theorem look_bl {st : Sto} {d : D} {v : V} {i : Bool} (r : Rep K w H W d v) (h : look st d = .bl i) : v = .bl i := by
  cases look_flat h (fun _ z => by cases z) (fun _ _ _ z => by cases z); cases r; rfl
theorem look_non {st : Sto} {d : D} {v : V} (r : Rep K w H W d v) (h : look st d = .non) : v = .non := by
  cases look_flat h (fun _ z => by cases z) (fun _ _ _ z => by cases z); cases r; rfl
theorem look_str {st : Sto} {d : D} {v : V} {x : Str} (r : Rep K w H W d v) (h : look st d = .str x) : v = .str x := by
  cases look_flat h (fun _ z => by cases z) (fun _ _ _ z => by cases z); cases r; rfl
theorem look_scr {st : Sto} {d : D} {v : V} {ds : List D} (r : Rep K w H W d v) (h : look st d = .scr ds) : ∃ a vs, v = .ref a ∧ SqL K H a vs ∧ RepL K w H W ds vs := by
  cases look_flat h (fun _ z => by cases z) (fun _ _ _ z => by cases z)
  cases r with
  | scr _ h1 h2 => exact ⟨_, _, rfl, .inl (.inr ⟨_, h1⟩), h2⟩
  | scrK h1 h2 => exact ⟨_, _, rfl, h1 H, h2⟩
theorem look_self {st : Sto} {d : D} {ds : List D} (h : look st d = .tup ds) : d = .tup ds := look_flat h (fun _ z => by cases z) (fun _ _ _ z => by cases z)
end Pv
namespace Pv
open PySem PySem.Spec PyProof.Rows L2

abbrev Den := Env → Sto → Option (D × Sto)
abbrev DenT := Env → Sto → Option (Bool × Sto)

section
variable (K : PySem.W.Frag) (w : World)
/-- what follows a value -/
def Kn (H : Hp) (W : Wd) (st : Sto) (d : D) (Q : VK) : Prop := ∀ v H' W', HExt H W H' W' → StoR K w H' W' st → Rep K w H' W' d v → Q v H'
def KnT (H : Hp) (W : Wd) (st : Sto) (b : Bool) (Q : Bool → Hp → Prop) : Prop := ∀ H' W', HExt H W H' W' → StoR K w H' W' st → Q b H'
def KnA (H : Hp) (W : Wd) (st : Sto) (ds : List D) (Q : List V → Hp → Prop) : Prop := ∀ vs H' W', HExt H W H' W' → StoR K w H' W' st → RepL K w H' W' ds vs → Q vs H'
def tE (f : Den) : TE := fun σ H Q => ∃ W st env d st', EnvR K w H W σ env ∧ StoR K w H W st ∧ f env st = some (d, st') ∧ Kn K w H W st' d Q
def tT (f : DenT) : TT := fun σ H Q => ∃ W st env b st', EnvR K w H W σ env ∧ StoR K w H W st ∧ f env st = some (b, st') ∧ KnT K w H W st' b Q
def aAll : List Den → Env → Sto → Option (List D × Sto)
  | [], _, st => some ([], st)
  | a :: as, env, st => (a env st).bind fun p => (aAll as env p.2).bind fun q => some (p.1 :: q.1, q.2)
def tA (as : List Den) : TA := fun σ H Q => ∃ W st env ds st', EnvR K w H W σ env ∧ StoR K w H W st ∧ aAll as env st = some (ds, st') ∧ KnA K w H W st' ds Q
end
abbrev DE (X : Cx) (e : Expr) (f : Den) : Prop := PE X e (tE X.K X.w f)
abbrev DT (X : Cx) (e : Expr) (f : DenT) : Prop := PT X e (tT X.K X.w f)
abbrev DW (X : Cx) (e : Expr) (f : DenT) : Prop := PW X e (tT X.K X.w f)
abbrev DA (X : Cx) (es : List Expr) (as : List Den) : Prop := PA X es (tA X.K X.w as)

section
variable {K : PySem.W.Frag} {w : World} {H H' H1 H2 : Hp} {W W' W1 W2 : Wd} {st st' : Sto} {X : Cx}
theorem PE.wk {e : Expr} {t t' : TE} (h : PE X e t) (k : ∀ σ H Q, t' σ H Q → t σ H Q) : PE X e t' := ⟨fun pins s σ H Q I q => h.run pins s σ H Q I (k σ H Q q)⟩
theorem PT.wk {e : Expr} {t t' : TT} (h : PT X e t) (k : ∀ σ H Q, t' σ H Q → t σ H Q) : PT X e t' := ⟨fun pins s σ H Q I q => h.run pins s σ H Q I (k σ H Q q)⟩
theorem PW.wk {e : Expr} {t t' : TT} (h : PW X e t) (k : ∀ σ H Q, t' σ H Q → t σ H Q) : PW X e t' := ⟨fun wh pins s σ H Q I q => h.run wh pins s σ H Q I (k σ H Q q)⟩
theorem PA.wk {e : List Expr} {t t' : TA} (h : PA X e t) (k : ∀ σ H Q, t' σ H Q → t σ H Q) : PA X e t' := ⟨fun p pins s σ H Q I q => h.run p pins s σ H Q I (k σ H Q q)⟩
theorem Kn.now {d : D} {Q : VK} (k : Kn K w H W st d Q) (S : StoR K w H W st) {v : V} (r : Rep K w H W d v) : Q v H := k v H W (.refl H W) S r
theorem Kn.mono {d : D} {Q : VK} (k : Kn K w H W st d Q) (x : HExt H W H1 W1) : Kn K w H1 W1 st d Q := fun v H' W' y => k v H' W' (x.trans y)
theorem KnT.now {b : Bool} {Q : Bool → Hp → Prop} (k : KnT K w H W st b Q) (S : StoR K w H W st) : Q b H := k H W (.refl H W) S
theorem KnT.mono {b : Bool} {Q : Bool → Hp → Prop} (k : KnT K w H W st b Q) (x : HExt H W H1 W1) : KnT K w H1 W1 st b Q := fun H' W' y => k H' W' (x.trans y)
theorem KnA.mono {ds : List D} {Q : List V → Hp → Prop} (k : KnA K w H W st ds Q) (x : HExt H W H1 W1) : KnA K w H1 W1 st ds Q := fun vs H' W' y => k vs H' W' (x.trans y)

/-! ### names and constants -/
def eVar (i : Nat) : Den := fun env st => match env[i]? with
  | some (some d) => some (d, st)
  | _ => none
def eC (d : D) : Den := fun _ st => some (d, st)
theorem d_var {i : Nat} {x : Str} {pos : Pos} (hN : X.N[i]? = some x := by rfl) (hv : Vis X.env.scope x := by first | exact Or.inl rfl | exact Or.inr (Or.inl rfl) | exact Or.inr (Or.inr rfl)) (hd : (x == ("__debug__" : Str)) = false := by decide)
    (hcd : (x == ("__classdict__" : Str)) = false := by decide) : DE X (.Name x pos) (eVar i) :=
  PE.wk (pe_var hN hv hd hcd) fun σ H Q ⟨W, st, env, d, st', E, S, e, k⟩ => by
    unfold eVar at e
    split at e
    · rename_i d' hd'
      cases e
      obtain ⟨v, h1, h2⟩ := E.at_ _ _ hd'
      exact ⟨v, h1, k.now S h2⟩
    · cases e
theorem d_c {e : Expr} {v : V} {d : D} (h : PE X e (tC v)) (r : ∀ H W, Rep X.K X.w H W d v) : DE X e (eC d) :=
  PE.wk h fun σ H Q ⟨W, st, env, d', st', E, S, e, k⟩ => by
    cases e
    exact k.now S (r H W)
theorem d_int {i : Int} {j : Nat} {pos : Pos} : DE X (.Constant (.int i) j pos) (eC (.int i)) := d_c pe_int fun _ _ => .int i
theorem d_bl {b : Bool} {j : Nat} {pos : Pos} : DE X (.Constant (.bool b) j pos) (eC (.bl b)) := d_c pe_bl fun _ _ => .bl b
theorem d_non {j : Nat} {pos : Pos} : DE X (.Constant .none j pos) (eC .non) := d_c pe_non fun _ _ => .non
theorem d_str {x : Str} {j : Nat} {pos : Pos} : DE X (.Constant (.str x) j pos) (eC (.str x)) := d_c pe_str fun _ _ => .str x
/-- a module's constant -/
theorem d_glob {x : Str} {v : V} {u : Value} {d : D} {pos : Pos} (hg : Gl X x) (hm : X.mg x = some u) (r : RelV v u) (rd : ∀ H W, Rep X.K X.w H W d v) (hd : (x == ("__debug__" : Str)) = false := by decide) : DE X (.Name x pos) (eC d) :=
  d_c (pe_glob hg hm r hd) rd

/-! ### argument lists, displays -/
theorem da_nil : DA X [] [] := PA.wk pa_nil fun σ H Q ⟨W, st, env, ds, st', E, S, e, k⟩ => by
  cases e
  exact k [] H W (.refl H W) S .nil
theorem da_cons {e : Expr} {es : List Expr} {a : Den} {as : List Den} (ha : DE X e a) (hr : DA X es as) (hs : starEach (e :: es) X.env = (false, eval e X.env) :: starEach es X.env := by rfl) : DA X (e :: es) (a :: as) :=
  PA.wk (pa_cons ha hr hs) fun σ H Q ⟨W, st, env, ds, st', E, S, e, k⟩ => by
    unfold aAll at e
    obtain ⟨⟨d, s1⟩, h1, e⟩ := Option.bind_eq_some_iff.mp e
    obtain ⟨⟨ds', s2⟩, h2, e⟩ := Option.bind_eq_some_iff.mp e
    cases e
    refine ⟨W, st, env, d, s1, E, S, h1, fun v H1 W1 x1 S1 r1 => ?_⟩
    refine ⟨W1, s1, env, ds', s2, E.mono x1, S1, h2, fun vs H2 W2 x2 S2 r2 => ?_⟩
    exact k (v :: vs) H2 W2 (x1.trans x2) S2 (.cons (Rep.mono x2 d v r1) r2)
theorem aAll_length : ∀ {as : List Den} {env : Env} {st : Sto} {ds : List D} {st' : Sto}, aAll as env st = some (ds, st') → ds.length = as.length
  | [], _, _, _, _, e => by cases e; rfl
  | a :: as, env, st, ds, st', e => by
    unfold aAll at e
    obtain ⟨⟨d, s1⟩, h1, e⟩ := Option.bind_eq_some_iff.mp e
    obtain ⟨⟨ds', s2⟩, h2, e⟩ := Option.bind_eq_some_iff.mp e
    cases e
    rw [List.length_cons, List.length_cons, aAll_length h2]
def eTup (as : List Den) : Den := fun env st => (aAll as env st).bind fun p => some (.tup p.1, p.2)
def eLst (as : List Den) : Den := fun env st => (aAll as env st).bind fun p => some (.lst p.1, p.2)
/-- a list that will be changed -/
def eLstR (as : List Den) : Den := fun env st => (aAll as env st).bind fun p => some (.ref p.2.length, p.2 ++ [.lst p.1])
theorem kn_tup {H : Hp} {W : Wd} {ds : List D} {vs : List V} {Q : VK} (S : StoR K w H W st) (r : RepL K w H W ds vs) (k : Kn K w H W st (.tup ds) Q) : ∀ p, H p = none → Q (.ref p) (upd H p (.tup vs)) := fun p hp =>
  k (.ref p) _ W (.upd hp) (S.upd hp) (.tup (S.npr hp) upd_same (RepL.mono (.upd hp) _ _ r))
theorem kn_lst {H : Hp} {W : Wd} {ds : List D} {vs : List V} {Q : VK} (S : StoR K w H W st) (r : RepL K w H W ds vs) (k : Kn K w H W st (.lst ds) Q) : ∀ p, H p = none → Q (.ref p) (upd H p (.lst vs)) := fun p hp =>
  k (.ref p) _ W (.upd hp) (S.upd hp) (.lst (S.npr hp) upd_same (RepL.mono (.upd hp) _ _ r))
theorem kn_lstR {H : Hp} {W : Wd} {ds : List D} {vs : List V} {Q : VK} (S : StoR K w H W st) (r : RepL K w H W ds vs) (k : Kn K w H W (st ++ [.lst ds]) (.ref st.length) Q) : ∀ p, H p = none → Q (.ref p) (upd H p (.lst vs)) := fun p hp =>
  k (.ref p) _ (W.add p) (.alloc hp) (S.alloc hp (.lst upd_same (RepL.mono (.alloc hp) _ _ r))) (.ref (fun a e => by
    have e : (W.mu ++ [some p])[st.length]? = some (some a) := e
    rw [← S.len, List.getElem?_append_right (Nat.le_refl _), Nat.sub_self] at e
    have e : p = a := by simpa using e
    rw [e]) (by show st.length < (W.mu ++ [some p]).length; rw [List.length_append, S.len]; exact Nat.lt_succ_self _))
theorem d_tup {es : List Expr} {as : List Den} {x1 : Nat} {pos : Pos} (h : DA X es as) (hl : as.length ≤ 1000 := by exact Nat.le_of_ble_eq_true rfl) : DE X (.Tuple es x1 pos) (eTup as) :=
  PE.wk (pe_tup h) fun σ H Q ⟨W, st, env, d, st', E, S, e, k⟩ => by
    obtain ⟨⟨ds, s1⟩, h1, e⟩ := Option.bind_eq_some_iff.mp e
    cases e
    refine ⟨W, st, env, ds, s1, E, S, h1, fun vs H1 W1 x1 S1 r1 => ⟨?_, kn_tup S1 r1 (k.mono x1)⟩⟩
    rw [← r1.length, aAll_length h1]
    exact Nat.le_of_lt (small1000 hl)
theorem d_lst {es : List Expr} {as : List Den} {pos : Pos} (h : DA X es as) (hl : as.length ≤ 1000 := by exact Nat.le_of_ble_eq_true rfl) : DE X (.List es pos) (eLst as) :=
  PE.wk (pe_lst h) fun σ H Q ⟨W, st, env, d, st', E, S, e, k⟩ => by
    obtain ⟨⟨ds, s1⟩, h1, e⟩ := Option.bind_eq_some_iff.mp e
    cases e
    refine ⟨W, st, env, ds, s1, E, S, h1, fun vs H1 W1 x1 S1 r1 => ⟨?_, kn_lst S1 r1 (k.mono x1)⟩⟩
    rw [← r1.length, aAll_length h1]
    exact Nat.le_of_lt (small1000 hl)
theorem d_lstR {es : List Expr} {as : List Den} {pos : Pos} (h : DA X es as) (hl : as.length ≤ 1000 := by exact Nat.le_of_ble_eq_true rfl) : DE X (.List es pos) (eLstR as) :=
  PE.wk (pe_lst h) fun σ H Q ⟨W, st, env, d, st', E, S, e, k⟩ => by
    obtain ⟨⟨ds, s1⟩, h1, e⟩ := Option.bind_eq_some_iff.mp e
    cases e
    refine ⟨W, st, env, ds, s1, E, S, h1, fun vs H1 W1 x1 S1 r1 => ⟨?_, kn_lstR S1 r1 (k.mono x1)⟩⟩
    rw [← r1.length, aAll_length h1]
    exact Nat.le_of_lt (small1000 hl)

/-! ### operators -/
/-- a two-place operation on what is seen -/
def eBin (g : D → D → Option D) (a b : Den) : Den := fun env st => (a env st).bind fun p => (b env p.2).bind fun q => (g (look q.2 p.1) (look q.2 q.1)).bind fun z => some (z, q.2)
def rBin (K : PySem.W.Frag) (w : World) (g : D → D → Option D) : R2 := fun x y H Q => ∃ W st d1 d2 z, StoR K w H W st ∧ Rep K w H W d1 x ∧ Rep K w H W d2 y ∧ g (look st d1) (look st d2) = some z ∧ Kn K w H W st z Q
def eUn (g : D → Option D) (a : Den) : Den := fun env st => (a env st).bind fun p => (g (look p.2 p.1)).bind fun z => some (z, p.2)
def rUn (K : PySem.W.Frag) (w : World) (g : D → Option D) : V → Hp → VK → Prop := fun x H Q => ∃ W st d z, StoR K w H W st ∧ Rep K w H W d x ∧ g (look st d) = some z ∧ Kn K w H W st z Q
theorem OpR.wk {f : Value → Value → Sem Value} {r r' : R2} (h : OpR X f r) (k : ∀ x y H Q, r' x y H Q → r x y H Q) : OpR X f r' := fun pins s σ H x y v u Q I r1 r2 q => h pins s σ H x y v u Q I r1 r2 (k x y H Q q)
theorem bin_at {g : D → D → Option D} {a b : Den} {σ : L2.St} {H : Hp} {Q : VK} (h : tE K w (eBin g a b) σ H Q) : tOp (rBin K w g) (tE K w a) (tE K w b) σ H Q := by
  obtain ⟨W, st, env, d, st', E, S, e, k⟩ := h
  obtain ⟨⟨d1, s1⟩, h1, e⟩ := Option.bind_eq_some_iff.mp e
  obtain ⟨⟨d2, s2⟩, h2, e⟩ := Option.bind_eq_some_iff.mp e
  obtain ⟨z, h3, e⟩ := Option.bind_eq_some_iff.mp e
  cases e
  refine ⟨W, st, env, d1, s1, E, S, h1, fun x H1 W1 x1 S1 r1 => ?_⟩
  refine ⟨W1, s1, env, d2, s2, E.mono x1, S1, h2, fun y H2 W2 x2 S2 r2 => ?_⟩
  exact ⟨W2, s2, d1, d2, d, S2, Rep.mono x2 d1 x r1, r2, h3, k.mono (x1.trans x2)⟩
theorem d_bin {op : Operator} {g : D → D → Option D} {a b : Expr} {f h : Den} {pos : Pos} (ho : OpR X (binaryOp op) (rBin X.K X.w g)) (ha : DE X a f) (hb : DE X b h) : DE X (.BinOp a op b pos) (eBin g f h) :=
  PE.wk (pe_op ho ha hb) fun _ _ _ => bin_at
theorem un_at {g : D → Option D} {a : Den} {σ : L2.St} {H : Hp} {Q : VK} (h : tE K w (eUn g a) σ H Q) : tUn (rUn K w g) (tE K w a) σ H Q := by
  obtain ⟨W, st, env, d, st', E, S, e, k⟩ := h
  obtain ⟨⟨d1, s1⟩, h1, e⟩ := Option.bind_eq_some_iff.mp e
  obtain ⟨z, h3, e⟩ := Option.bind_eq_some_iff.mp e
  cases e
  exact ⟨W, st, env, d1, s1, E, S, h1, fun x H1 W1 x1 S1 r1 => ⟨W1, s1, d1, d, S1, r1, h3, k.mono x1⟩⟩
theorem d_un {op : UnaryOp} {g : D → Option D} {a : Expr} {f : Den} {pos : Pos} (ho : UnR X (unaryOp op) (rUn X.K X.w g)) (ha : DE X a f) : DE X (.UnaryOp op a pos) (eUn g f) :=
  PE.wk (pe_un ho ha) fun _ _ _ => un_at

def gAdd : D → D → Option D
  | .int i, .int j => some (.int (i + j))
  | .tup a, .tup b => if a.length + b.length ≤ sizeLine then some (.tup (a ++ b)) else none
  | .lst a, .lst b => if a.length + b.length ≤ sizeLine then some (.lst (a ++ b)) else none
  | _, _ => none
def gSub : D → D → Option D
  | .int i, .int j => some (.int (i - j))
  | _, _ => none
def gMul : D → D → Option D
  | .int i, .int j => if i.natAbs.log2 + j.natAbs.log2 < 1000000 then some (.int (i * j)) else none
  | _, _ => none
def gDiv : D → D → Option D
  | .int i, .int j => if j ≠ 0 ∧ j.natAbs < 1073741824 then some (.int (i.fdiv j)) else none
  | _, _ => none
def gMod : D → D → Option D
  | .int i, .int j => if j ≠ 0 then some (.int (i.fmod j)) else none
  | _, _ => none
def gPow : D → D → Option D
  | .int i, .int j => if 0 ≤ j ∧ j ≤ 1000000 ∧ i.natAbs < 2 ^ 64 then some (.int (i ^ j.toNat)) else none
  | _, _ => none
def gNeg : D → Option D
  | .int i => some (.int (-i))
  | _ => none
theorem OpR.or {f : Value → Value → Sem Value} {r r' : R2} (h : OpR X f r) (h' : OpR X f r') : OpR X f (fun x y H Q => r x y H Q ∨ r' x y H Q) := by
  intro pins s σ H x y v u Q I rx ry q
  rcases q with q | q
  · exact h pins s σ H x y v u Q I rx ry q
  · exact h' pins s σ H x y v u Q I rx ry q
theorem o_add : OpR X (binaryOp .Add) (rBin X.K X.w gAdd) :=
  OpR.wk (op_add.or (op_catA.or op_cat)) fun x y H Q ⟨W, st, d1, d2, z, S, r1, r2, e, k⟩ => by
    unfold gAdd at e
    split at e
    · rename_i i j h1 h2
      cases e
      exact .inl ⟨i, j, look_int r1 h1, look_int r2 h2, k.now S (.int _)⟩
    · rename_i a b h1 h2
      split at e
      · rename_i hl
        cases e
        obtain ⟨p, xs, rfl, s1, l1⟩ := look_tup r1 h1
        obtain ⟨q, ys, rfl, s2, l2⟩ := look_tup r2 h2
        refine .inr (.inl ⟨p, q, xs, ys, rfl, rfl, s1, s2, by rw [← l1.length, ← l2.length]; exact hl, fun e => ?_, fun _ e => ?_, fun _ _ => kn_tup S (l1.append l2) k⟩)
        · subst e
          cases l1
          rw [look_self h2] at r2
          exact k.now S r2
        · subst e
          cases l2
          rw [List.append_nil] at k
          rw [look_self h1] at r1
          exact k.now S r1
      · cases e
    · rename_i a b h1 h2
      split at e
      · rename_i hl
        cases e
        obtain ⟨p, xs, rfl, s1, l1⟩ := look_lst S r1 h1
        obtain ⟨q, ys, rfl, s2, l2⟩ := look_lst S r2 h2
        exact .inr (.inr ⟨p, q, xs, ys, rfl, rfl, s1, s2, by rw [← l1.length, ← l2.length]; exact hl, kn_lst S (l1.append l2) k⟩)
      · cases e
    · cases e
theorem o_sub : OpR X (binaryOp .Sub) (rBin X.K X.w gSub) :=
  OpR.wk op_sub fun x y H Q ⟨W, st, d1, d2, z, S, r1, r2, e, k⟩ => by
    unfold gSub at e
    split at e
    · rename_i i j h1 h2
      cases e
      exact ⟨i, j, look_int r1 h1, look_int r2 h2, k.now S (.int _)⟩
    · cases e
theorem o_mul : OpR X (binaryOp .Mult) (rBin X.K X.w gMul) :=
  OpR.wk op_mulW fun x y H Q ⟨W, st, d1, d2, z, S, r1, r2, e, k⟩ => by
    unfold gMul at e
    split at e
    · rename_i i j h1 h2
      split at e
      · rename_i hc
        cases e
        exact ⟨i, j, look_int r1 h1, look_int r2 h2, hc, k.now S (.int _)⟩
      · cases e
    · cases e
theorem o_div : OpR X (binaryOp .FloorDiv) (rBin X.K X.w gDiv) :=
  OpR.wk op_fdivN fun x y H Q ⟨W, st, d1, d2, z, S, r1, r2, e, k⟩ => by
    unfold gDiv at e
    split at e
    · rename_i i j h1 h2
      split at e
      · rename_i hc
        cases e
        exact ⟨i, j, look_int r1 h1, look_int r2 h2, hc, k.now S (.int _)⟩
      · cases e
    · cases e
theorem o_mod : OpR X (binaryOp .Mod) (rBin X.K X.w gMod) :=
  OpR.wk op_modN fun x y H Q ⟨W, st, d1, d2, z, S, r1, r2, e, k⟩ => by
    unfold gMod at e
    split at e
    · rename_i i j h1 h2
      split at e
      · rename_i hc
        cases e
        exact ⟨i, j, look_int r1 h1, look_int r2 h2, hc, k.now S (.int _)⟩
      · cases e
    · cases e
theorem o_pow : OpR X (binaryOp .Pow) (rBin X.K X.w gPow) :=
  OpR.wk op_pow fun x y H Q ⟨W, st, d1, d2, z, S, r1, r2, e, k⟩ => by
    unfold gPow at e
    split at e
    · rename_i i j h1 h2
      split at e
      · rename_i hc
        cases e
        exact ⟨i, j, look_int r1 h1, look_int r2 h2, hc, k.now S (.int _)⟩
      · cases e
    · cases e
theorem o_neg : UnR X (unaryOp .USub) (rUn X.K X.w gNeg) := fun pins s σ H x v Q I rx ⟨W, st, d, z, S, r, e, k⟩ => by
  unfold gNeg at e
  split at e
  · rename_i i h
    cases e
    exact un_neg pins s σ H x v Q I rx ⟨i, look_int r h, k.now S (.int _)⟩
  · cases e
end
end Pv
namespace Pv
open PySem PySem.Spec PyProof.Rows L2
section
variable {K : PySem.W.Frag} {w : World} {H H' H1 H2 : Hp} {W W' W1 W2 : Wd} {st st' : Sto} {X : Cx}

/-! ### as plain data -/
mutual
theorem Rep.dp : ∀ (d : D) (v : V), PyData.canLay0 (toPd d) = true → Rep K w H W d v → Dp K H v (toPd d)
  | .non, _, _, r => by cases r; exact .non
  | .bl _, _, _, r => by cases r; exact .bl _
  | .int _, _, _, r => by cases r; exact .int _
  | .str _, _, _, r => by cases r; exact .str _
  | .tup ds, _, c, r => by
    have c' : PyData.canLayAll0 (toPds ds) = true := by simpa [toPd, PyData.canLay0] using c
    cases r with
    | tup n h l => exact .tup (.of h) (RepL.dp ds _ c' l)
    | tupK h l => exact .tup (h H) (RepL.dp ds _ c' l)
  | .lst ds, _, c, r => by
    have c' : PyData.canLayAll0 (toPds ds) = true := by simpa [toPd, PyData.canLay0] using c
    cases r with
    | lst n h l => exact .lst (.of h) (RepL.dp ds _ c' l)
  | .dct _ _ _, _, c, _ => by simp [toPd, PyData.canLay0] at c
  | .set _ _, _, c, _ => by simp [toPd, PyData.canLay0] at c
  | .scr _, _, c, _ => by simp [toPd, PyData.canLay0] at c
  | .ref _, _, c, _ => by simp [toPd, PyData.canLay0] at c
theorem RepL.dp : ∀ (ds : List D) (vs : List V), PyData.canLayAll0 (toPds ds) = true → RepL K w H W ds vs → DpAll K H vs (toPds ds)
  | [], _, _, r => by cases r; exact .nil
  | d :: ds, _, c, r => by
    have c' : PyData.canLay0 (toPd d) = true ∧ PyData.canLayAll0 (toPds ds) = true := by simpa [toPds, PyData.canLayAll0] using c
    cases r with
    | cons h t => exact .cons (Rep.dp d _ c'.1 h) (RepL.dp ds _ c'.2 t)
end
theorem look_dp {st : Sto} {d : D} {v : V} (S : StoR K w H W st) (r : Rep K w H W d v) (c : PyData.canLay0 (toPd (look st d)) = true) : Dp K H v (toPd (look st d)) := by
  rcases look_inv (rfl : look st d = look st d) with e | ⟨n, rfl, ⟨es, q, e⟩ | ⟨t, ks, vs, q, e⟩⟩
  · rw [← e] at c ⊢
    exact Rep.dp d v c r
  · rw [e] at c ⊢
    have c' : PyData.canLayAll0 (toPds es) = true := by simpa [toPd, PyData.canLay0] using c
    obtain ⟨a, rfl, _, q⟩ := r.ref_at S q (by intro z; cases z)
    cases q with
    | lst h1 h2 => exact .lst (.of h1) (RepL.dp es _ c' h2)
  · rw [e] at c; simp [toPd, PyData.canLay0] at c
def shp (d : D) : Bool := SeqAt.shaped (toPd d)
def eqD (a b : D) : Bool := PyData.eqv (toPd a) (toPd b)
def gEq (a b : D) : Option D := if shp a = true ∧ shp b = true then some (.bl (eqD a b)) else none
def gNe (a b : D) : Option D := if shp a = true ∧ shp b = true then some (.bl (!eqD a b)) else none
theorem o_eq (hu : X.A.units + 64 < cLine) : OpR X (compareOp .Eq) (rBin X.K X.w gEq) :=
  OpR.wk (op_eqD hu) fun x y H Q ⟨W, st, d1, d2, z, S, r1, r2, e, k⟩ => by
    unfold gEq at e
    split at e
    · rename_i h
      cases e
      exact ⟨_, _, look_dp S r1 (SeqAt.canLay_of_shaped h.1), look_dp S r2 (SeqAt.canLay_of_shaped h.2), h.1, h.2, k.now S (.bl _)⟩
    · cases e
theorem o_ne (hu : X.A.units + 64 < cLine) : OpR X (compareOp .NotEq) (rBin X.K X.w gNe) :=
  OpR.wk (op_neD hu) fun x y H Q ⟨W, st, d1, d2, z, S, r1, r2, e, k⟩ => by
    unfold gNe at e
    split at e
    · rename_i h
      cases e
      exact ⟨_, _, look_dp S r1 (SeqAt.canLay_of_shaped h.1), look_dp S r2 (SeqAt.canLay_of_shaped h.2), h.1, h.2, k.now S (.bl _)⟩
    · cases e
def gCmp (p : Int → Int → Bool) : D → D → Option D
  | .int i, .int j => some (.bl (p i j))
  | _, _ => none
theorem o_cmp {op : CmpOp} {p : Int → Int → Bool} (h : OpR X (compareOp op) (rI0 fun i j => .bl (p i j))) : OpR X (compareOp op) (rBin X.K X.w (gCmp p)) :=
  OpR.wk h fun x y H Q ⟨W, st, d1, d2, z, S, r1, r2, e, k⟩ => by
    unfold gCmp at e
    split at e
    · rename_i i j h1 h2
      cases e
      exact ⟨i, j, look_int r1 h1, look_int r2 h2, k.now S (.bl _)⟩
    · cases e
abbrev gLtI : D → D → Option D := gCmp fun i j => decide (i < j)
abbrev gLeI : D → D → Option D := gCmp fun i j => decide (i ≤ j)
abbrev gGtI : D → D → Option D := gCmp fun i j => decide (i > j)
abbrev gGeI : D → D → Option D := gCmp fun i j => decide (i ≥ j)
theorem o_lt : OpR X (compareOp .Lt) (rBin X.K X.w gLtI) := o_cmp op_lt
theorem o_le : OpR X (compareOp .LtE) (rBin X.K X.w gLeI) := o_cmp op_le
theorem o_gt : OpR X (compareOp .Gt) (rBin X.K X.w gGtI) := o_cmp op_gt
theorem o_ge : OpR X (compareOp .GtE) (rBin X.K X.w gGeI) := o_cmp op_ge
/-- x in a list, a tuple -/
def inD (x : D) (ds : List D) : Bool := ds.any fun y => eqD y x
def gIn (x : D) : D → Option D
  | .lst ds => if shp x = true ∧ PyData.canLayAll0 (toPds ds) = true then some (.bl (inD x ds)) else none
  | .tup ds => if shp x = true ∧ PyData.canLayAll0 (toPds ds) = true then some (.bl (inD x ds)) else none
  | _ => none
def gNotIn (x : D) (y : D) : Option D := (gIn x y).bind fun z => match z with
  | .bl b => some (.bl (!b))
  | _ => none
theorem any_toPds (d : D) : ∀ ds : List D, ((toPds ds).any fun y => PyData.eqv y (toPd d)) = inD d ds
  | [] => rfl
  | e :: ds => by
    have ih := any_toPds d ds
    unfold inD at ih
    simp only [toPds, inD, List.any_cons, eqD]
    rw [ih]; rfl
theorem in_core (neg : Bool) (hu : X.A.units + 65 < cLine) {pins : List (Addr × Obj)} {s : Shared} {σ : L2.St} {H : Hp} {x y : V} {v u : Value} {Q : VK} (I : Inv X pins σ H s) (rx : RelV x v) (ry : RelV y u)
    {W : Wd} {st : Sto} {d1 d2 : D} {b : Bool} (S : StoR X.K X.w H W st) (r1 : Rep X.K X.w H W d1 x) (r2 : Rep X.K X.w H W d2 y) (e : gIn (look st d1) (look st d2) = some (.bl b)) (k : Q (.bl (if neg = true then !b else b)) H) :
    wpAny (model X.prog X.w) X.A (compareOp (if neg = true then .NotIn else .In) v u) (EP X pins σ Q) X.xe s := by
  unfold gIn at e
  split at e
  · rename_i ds h2
    split at e
    · rename_i h
      cases e
      obtain ⟨as, q1⟩ := Dp.reads I _ x v (look_dp S r1 (SeqAt.canLay_of_shaped h.1)) rx
      obtain ⟨p, vs, rfl, hs, l⟩ := look_lst S r2 h2
      obtain ⟨bs, q2⟩ := Dp.reads I (.list (toPds ds)) _ u (.lst (.of hs) (RepL.dp ds vs h.2 l)) ry
      have room := room_in_shaped (xs := toPds ds) h.1 hu
      cases neg
      · exact SeqAt.in_list_reads q2 q1 h.2 (SeqAt.canLay_of_shaped h.1) room ⟨.bl _, H, I, rfl, by rw [any_toPds]; exact k⟩
      · exact SeqAt.notIn_list_reads q2 q1 h.2 (SeqAt.canLay_of_shaped h.1) room ⟨.bl _, H, I, rfl, by rw [any_toPds]; exact k⟩
    · cases e
  · rename_i ds h2
    split at e
    · rename_i h
      cases e
      obtain ⟨as, q1⟩ := Dp.reads I _ x v (look_dp S r1 (SeqAt.canLay_of_shaped h.1)) rx
      obtain ⟨p, vs, rfl, hs, l⟩ := look_tup r2 h2
      obtain ⟨bs, q2⟩ := Dp.reads I (.tuple (toPds ds)) _ u (.tup hs (RepL.dp ds vs h.2 l)) ry
      have room := room_in_shaped (xs := toPds ds) h.1 hu
      cases neg
      · exact SeqAt.in_tuple_reads q2 q1 h.2 (SeqAt.canLay_of_shaped h.1) room ⟨.bl _, H, I, rfl, by rw [any_toPds]; exact k⟩
      · exact SeqAt.notIn_tuple_reads q2 q1 h.2 (SeqAt.canLay_of_shaped h.1) room ⟨.bl _, H, I, rfl, by rw [any_toPds]; exact k⟩
    · cases e
  · cases e
theorem gIn_bl {x y z : D} (h : gIn x y = some z) : ∃ b, z = .bl b := by
  unfold gIn at h
  split at h
  · split at h
    · cases h; exact ⟨_, rfl⟩
    · cases h
  · split at h
    · cases h; exact ⟨_, rfl⟩
    · cases h
  · cases h
theorem o_in (hu : X.A.units + 65 < cLine) : OpR X (compareOp .In) (rBin X.K X.w gIn) := fun pins s σ H x y v u Q I rx ry ⟨W, st, d1, d2, z, S, r1, r2, e, k⟩ => by
  obtain ⟨b, rfl⟩ := gIn_bl e
  exact in_core false hu I rx ry S r1 r2 e (k.now S (.bl _))
theorem o_notin (hu : X.A.units + 65 < cLine) : OpR X (compareOp .NotIn) (rBin X.K X.w gNotIn) := fun pins s σ H x y v u Q I rx ry ⟨W, st, d1, d2, z, S, r1, r2, e, k⟩ => by
  unfold gNotIn at e
  obtain ⟨z', h, e⟩ := Option.bind_eq_some_iff.mp e
  obtain ⟨b, rfl⟩ := gIn_bl h
  cases e
  exact in_core true hu I rx ry S r1 r2 h (k.now S (.bl _))
/-- x is None -/
def isNon : D → Bool
  | .non => true
  | _ => false
def gIsNon (d : D) : Option D := some (.bl (isNon d))
def gNotNon (d : D) : Option D := some (.bl (!isNon d))
theorem Rep.isNon {d : D} {v : V} {st : Sto} (S : StoR K w H W st) (r : Rep K w H W d v) : look st d = .non ∨ (∃ n, d = .ref n ∧ look st d = .ref n) ∨ decide (v = V.non) = Pv.isNon (look st d) := by
  rcases look_inv (rfl : look st d = look st d) with e | ⟨n, rfl, ⟨es, q, e⟩ | ⟨t, ks, vs, q, e⟩⟩
  · cases d with
    | ref n => exact .inr (.inl ⟨n, rfl, e.symm⟩)
    | _ =>
      rw [← e]
      cases r <;> first | exact .inl rfl | exact .inr (.inr rfl)
  · obtain ⟨a, rfl, _, q⟩ := r.ref_at S q (by intro z; cases z)
    rw [e]; exact .inr (.inr rfl)
  · obtain ⟨a, rfl, _, q⟩ := r.ref_at S q (by intro z; cases z)
    rw [e]; exact .inr (.inr rfl)
def gIsNonG (neg : Bool) (d : D) : Option D := match d with
  | .ref _ => none
  | _ => some (.bl (if neg = true then !Pv.isNon d else Pv.isNon d))
theorem isNonG_at {neg : Bool} {d z : D} {v : V} {st : Sto} {Q : VK} (S : StoR K w H W st) (r : Rep K w H W d v) (e : gIsNonG neg (look st d) = some z) (k : Kn K w H W st z Q) : Q (.bl (if neg = true then !decide (v = V.non) else decide (v = V.non))) H := by
  have key : decide (v = V.non) = Pv.isNon (look st d) := by
    rcases r.isNon S with h | ⟨n, rfl, h⟩ | h
    · rw [look_non r h, h]; rfl
    · rw [h] at e; cases e
    · exact h
  rw [key]
  unfold gIsNonG at e
  split at e
  · cases e
  · cases e
    exact k.now S (.bl _)
theorem d_isN {a : Expr} {f : Den} {j : Nat} {pos pos' : Pos} (ha : DE X a f) : DE X (.Compare a [.Is] [.Constant .none j pos'] pos) (eUn (gIsNonG false) f) :=
  PE.wk (pe_cmp (pc_isN ha)) fun σ H Q h => by
    obtain ⟨W, st, env, d1, s1, E, S, h1, k⟩ := un_at h
    refine ⟨W, st, env, d1, s1, E, S, h1, fun x H1 W1 x1 S1 r1 => ?_⟩
    obtain ⟨W2, st2, d, z, S2, r2, e2, k2⟩ := k x H1 W1 x1 S1 r1
    exact isNonG_at S2 r2 e2 k2
theorem d_notN {a : Expr} {f : Den} {j : Nat} {pos pos' : Pos} (ha : DE X a f) : DE X (.Compare a [.IsNot] [.Constant .none j pos'] pos) (eUn (gIsNonG true) f) :=
  PE.wk (pe_cmp (pc_notN ha)) fun σ H Q h => by
    obtain ⟨W, st, env, d1, s1, E, S, h1, k⟩ := un_at h
    refine ⟨W, st, env, d1, s1, E, S, h1, fun x H1 W1 x1 S1 r1 => ?_⟩
    obtain ⟨W2, st2, d, z, S2, r2, e2, k2⟩ := k x H1 W1 x1 S1 r1
    exact isNonG_at S2 r2 e2 k2
/-- x is True, of bools -/
def gIsB (neg : Bool) : D → D → Option D
  | .bl a, .bl b => some (.bl (if neg = true then !decide (a = b) else decide (a = b)))
  | _, _ => none
theorem o_isB : OpR X (compareOp .Is) (rBin X.K X.w (gIsB false)) :=
  OpR.wk op_isBl fun x y H Q ⟨W, st, d1, d2, z, S, r1, r2, e, k⟩ => by
    unfold gIsB at e
    split at e
    · rename_i a b h1 h2
      cases e
      exact ⟨a, b, look_bl r1 h1, look_bl r2 h2, k.now S (.bl _)⟩
    · cases e
theorem o_isnotB : OpR X (compareOp .IsNot) (rBin X.K X.w (gIsB true)) :=
  OpR.wk op_isnot_bl fun x y H Q ⟨W, st, d1, d2, z, S, r1, r2, e, k⟩ => by
    unfold gIsB at e
    split at e
    · rename_i a b h1 h2
      cases e
      exact ⟨a, b, look_bl r1 h1, look_bl r2 h2, k.now S (.bl _)⟩
    · cases e

/-! ### comparisons as values, as tests; chains -/
theorem d_cmp {op : CmpOp} {g : D → D → Option D} {a b : Expr} {f h : Den} {pos : Pos} (ho : OpR X (compareOp op) (rBin X.K X.w g)) (ha : DE X a f) (hb : DE X b h) (hm : behindInMarks op b = false := by first | exact nobehind _ (by decide) (by decide) | with_unfolding_all rfl) : DE X (.Compare a [op] [b] pos) (eBin g f h) :=
  PE.wk (pe_cmpR ho ha hb hm) fun _ _ _ => bin_at
/-- a value that is a bool, as a test -/
def tOf (a : Den) : DenT := fun env st => (a env st).bind fun p => match p.1 with
  | .bl b => some (b, p.2)
  | _ => none
theorem of_at {a : Den} {σ : L2.St} {H : Hp} {Q : Bool → Hp → Prop} (h : tT K w (tOf a) σ H Q) : tE K w a σ H fun x H' => ∃ b, x = .bl b ∧ Q b H' := by
  obtain ⟨W, st, env, b, st', E, S, e, k⟩ := h
  obtain ⟨⟨d, s1⟩, h1, e⟩ := Option.bind_eq_some_iff.mp e
  dsimp only at e
  split at e
  · cases e
    refine ⟨W, st, env, _, _, E, S, h1, fun v H' W' x S' r => ?_⟩
    cases r
    exact ⟨_, rfl, k H' W' x S'⟩
  · cases e
theorem t_cmp {op : CmpOp} {g : D → D → Option D} {a b : Expr} {f h : Den} {pos : Pos} (ho : OpR X (compareOp op) (rBin X.K X.w g)) (ha : DE X a f) (hb : DE X b h) (hm : behindInMarks op b = false := by first | exact nobehind _ (by decide) (by decide) | with_unfolding_all rfl) : DT X (.Compare a [op] [b] pos) (tOf (eBin g f h)) :=
  PT.wk (pt_cmpR ho ha hb hm) fun σ H Q q => bin_at (of_at q)
theorem t_isN {a : Expr} {f : Den} {j : Nat} {pos pos' : Pos} (ha : DE X a f) : DT X (.Compare a [.Is] [.Constant .none j pos'] pos) (tOf (eUn (gIsNonG false) f)) :=
  PT.wk (pt_cmp (pc_isN ha)) fun σ H Q q => by
    have h := of_at q
    obtain ⟨W, st, env, d1, s1, E, S, h1, k⟩ := un_at h
    refine ⟨W, st, env, d1, s1, E, S, h1, fun x H1 W1 x1 S1 r1 => ?_⟩
    obtain ⟨W2, st2, d, z, S2, r2, e2, k2⟩ := k x H1 W1 x1 S1 r1
    exact isNonG_at S2 r2 e2 k2
theorem t_notN {a : Expr} {f : Den} {j : Nat} {pos pos' : Pos} (ha : DE X a f) : DT X (.Compare a [.IsNot] [.Constant .none j pos'] pos) (tOf (eUn (gIsNonG true) f)) :=
  PT.wk (pt_cmp (pc_notN ha)) fun σ H Q q => by
    have h := of_at q
    obtain ⟨W, st, env, d1, s1, E, S, h1, k⟩ := un_at h
    refine ⟨W, st, env, d1, s1, E, S, h1, fun x H1 W1 x1 S1 r1 => ?_⟩
    obtain ⟨W2, st2, d, z, S2, r2, e2, k2⟩ := k x H1 W1 x1 S1 r1
    exact isNonG_at S2 r2 e2 k2
/-- a op b op' c -/
def eChain (g g' : D → D → Option D) (a b c : Den) : Den := fun env st => (a env st).bind fun p => (b env p.2).bind fun q => (g (look q.2 p.1) (look q.2 q.1)).bind fun z => match z with
  | .bl true => (c env q.2).bind fun r => (g' (look r.2 q.1) (look r.2 r.1)).bind fun z => some (z, r.2)
  | .bl false => some (.bl false, q.2)
  | _ => none
theorem chain_at {g g' : D → D → Option D} {a b c : Den} {σ : L2.St} {H : Hp} {Q : VK} (h : tE K w (eChain g g' a b c) σ H Q) : tChain (rBin K w g) (rBin K w g') (tE K w a) (tE K w b) (tE K w c) σ H Q := by
  obtain ⟨W, st, env, d, st', E, S, e, k⟩ := h
  obtain ⟨⟨d1, s1⟩, h1, e⟩ := Option.bind_eq_some_iff.mp e
  obtain ⟨⟨d2, s2⟩, h2, e⟩ := Option.bind_eq_some_iff.mp e
  obtain ⟨z, h3, e⟩ := Option.bind_eq_some_iff.mp e
  refine ⟨W, st, env, d1, s1, E, S, h1, fun x H1 W1 x1 S1 r1 => ?_⟩
  refine ⟨W1, s1, env, d2, s2, E.mono x1, S1, h2, fun y H2 W2 x2 S2 r2 => ?_⟩
  refine ⟨W2, s2, d1, d2, z, S2, Rep.mono x2 d1 x r1, r2, h3, fun v H3 W3 x3 S3 r3 => ?_⟩
  dsimp only at e
  split at e
  · cases r3
    refine ⟨true, rfl, iteT ?_⟩
    obtain ⟨⟨d3, s3⟩, h4, e⟩ := Option.bind_eq_some_iff.mp e
    obtain ⟨z', h5, e⟩ := Option.bind_eq_some_iff.mp e
    cases e
    refine ⟨W3, s2, env, d3, s3, ((E.mono x1).mono x2).mono x3, S3, h4, fun u H4 W4 x4 S4 r4 => ?_⟩
    exact ⟨W4, s3, d2, d3, d, S4, Rep.mono (x3.trans x4) d2 y r2, r4, h5, k.mono (((x1.trans x2).trans x3).trans x4)⟩
  · cases e
    cases r3
    exact ⟨false, rfl, iteF (k _ H3 W3 ((x1.trans x2).trans x3) S3 (.bl _))⟩
  · cases e
theorem d_chain {op op' : CmpOp} {g g' : D → D → Option D} {a b c : Expr} {f h i : Den} {pos : Pos} (ho : OpR X (compareOp op) (rBin X.K X.w g)) (ho' : OpR X (compareOp op') (rBin X.K X.w g')) (ha : DE X a f) (hb : DE X b h) (hc : DE X c i)
    (hm : lastMarks [op, op'] [b, c] = false := by with_unfolding_all rfl) : DE X (.Compare a [op, op'] [b, c] pos) (eChain g g' f h i) :=
  PE.wk (pe_chain ho ho' ha hb hc hm) fun _ _ _ => chain_at
theorem t_chain {op op' : CmpOp} {g g' : D → D → Option D} {a b c : Expr} {f h i : Den} {pos : Pos} (ho : OpR X (compareOp op) (rBin X.K X.w g)) (ho' : OpR X (compareOp op') (rBin X.K X.w g')) (ha : DE X a f) (hb : DE X b h) (hc : DE X c i)
    (hm : lastMarks [op, op'] [b, c] = false := by with_unfolding_all rfl) : DT X (.Compare a [op, op'] [b, c] pos) (tOf (eChain g g' f h i)) :=
  PT.wk (pt_chain ho ho' ha hb hc hm) fun σ H Q q => chain_at (of_at q)

/-! ### truth; and, or, not -/
def truD : D → Option Bool
  | .non => some false
  | .bl b => some b
  | .int i => some (i != 0)
  | .tup ds => some (!ds.isEmpty)
  | .lst ds => some (!ds.isEmpty)
  | _ => none
theorem RepL.isEmpty {ds : List D} {vs : List V} (r : RepL K w H W ds vs) : ds.isEmpty = vs.isEmpty := by cases r <;> rfl
theorem truD_at {d : D} {v : V} {st : Sto} {b : Bool} (S : StoR K w H W st) (r : Rep K w H W d v) (e : truD (look st d) = some b) : TruV K v H b := by
  unfold truD at e
  split at e
  · rename_i h
    cases e; rw [look_non r h]; rfl
  · rename_i h
    cases e; rw [look_bl r h]; rfl
  · rename_i h
    cases e; rw [look_int r h]; rfl
  · rename_i h
    cases e
    obtain ⟨a, vs, rfl, s, l⟩ := look_tup r h
    exact .inr (.inl ⟨vs, s, by rw [l.isEmpty]⟩)
  · rename_i h
    cases e
    obtain ⟨a, vs, rfl, s, l⟩ := look_lst S r h
    exact .inl ⟨vs, .of s, by rw [l.isEmpty]⟩
  · cases e
/-- a value's truth as a test -/
def tTru (a : Den) : DenT := fun env st => (a env st).bind fun p => (truD (look p.2 p.1)).bind fun b => some (b, p.2)
theorem t_tru {a : Expr} {f : Den} (ha : DE X a f) (he : ∀ whole, isTrue a X.env whole = (do let v ← whole; standAt a.pos; holding [v] (truthy v)) := by intro _; rfl) : DT X a (tTru f) :=
  PT.wk (pt_truth ha he) fun σ H Q ⟨W, st, env, b, st', E, S, e, k⟩ => by
    obtain ⟨⟨d, s1⟩, h1, e⟩ := Option.bind_eq_some_iff.mp e
    obtain ⟨b', h2, e⟩ := Option.bind_eq_some_iff.mp e
    cases e
    exact ⟨W, st, env, d, s1, E, S, h1, fun v H' W' x S' r => ⟨_, truD_at S' r h2, k H' W' x S'⟩⟩
def tNotT (a : DenT) : DenT := fun env st => (a env st).bind fun p => some (!p.1, p.2)
def tAndT (a b : DenT) : DenT := fun env st => (a env st).bind fun p => match p.1 with
  | true => b env p.2
  | false => some (false, p.2)
def tOrT (a b : DenT) : DenT := fun env st => (a env st).bind fun p => match p.1 with
  | true => some (true, p.2)
  | false => b env p.2
theorem t_not {a : Expr} {f : DenT} {pos : Pos} (ha : DT X a f) : DT X (.UnaryOp .Not a pos) (tNotT f) :=
  PT.wk (pt_not ha) fun σ H Q ⟨W, st, env, b, st', E, S, e, k⟩ => by
    obtain ⟨⟨d, s1⟩, h1, e⟩ := Option.bind_eq_some_iff.mp e
    cases e
    exact ⟨W, st, env, d, s1, E, S, h1, fun H' W' x S' => k H' W' x S'⟩
theorem w_and1 {a : Expr} {f : DenT} {pos : Pos} (ha : DT X a f) : DW X (.BoolOp .And [a] pos) f := pw_and1 ha
theorem w_or1 {a : Expr} {f : DenT} {pos : Pos} (ha : DT X a f) : DW X (.BoolOp .Or [a] pos) f := pw_or1 ha
theorem w_and {a b : Expr} {rest : List Expr} {f h : DenT} {pos : Pos} (ha : DT X a f) (hb : DW X (.BoolOp .And (b :: rest) pos) h) : DW X (.BoolOp .And (a :: b :: rest) pos) (tAndT f h) :=
  PW.wk (pw_and ha hb) fun σ H Q ⟨W, st, env, b, st', E, S, e, k⟩ => by
    obtain ⟨⟨d, s1⟩, h1, e⟩ := Option.bind_eq_some_iff.mp e
    refine ⟨W, st, env, d, s1, E, S, h1, fun H' W' x S' => ?_⟩
    dsimp only at e
    cases d with
    | true => exact iteT ⟨W', s1, env, b, st', E.mono x, S', e, k.mono x⟩
    | false => cases e; exact iteF (k H' W' x S')
theorem w_or {a b : Expr} {rest : List Expr} {f h : DenT} {pos : Pos} (ha : DT X a f) (hb : DW X (.BoolOp .Or (b :: rest) pos) h) : DW X (.BoolOp .Or (a :: b :: rest) pos) (tOrT f h) :=
  PW.wk (pw_or ha hb) fun σ H Q ⟨W, st, env, b, st', E, S, e, k⟩ => by
    obtain ⟨⟨d, s1⟩, h1, e⟩ := Option.bind_eq_some_iff.mp e
    refine ⟨W, st, env, d, s1, E, S, h1, fun H' W' x S' => ?_⟩
    dsimp only at e
    cases d with
    | true => cases e; exact iteT (k H' W' x S')
    | false => exact iteF ⟨W', s1, env, b, st', E.mono x, S', e, k.mono x⟩
theorem t_w {a : Expr} {f : DenT} (h : DW X a f) : DT X a f := h.pt
/-- a test as a value: and, or, not of bools -/
def eOf (a : DenT) : Den := fun env st => (a env st).bind fun p => some (.bl p.1, p.2)
def eAnd (a b : Den) : Den := fun env st => (a env st).bind fun p => match p.1 with
  | .bl true => b env p.2
  | .bl false => some (.bl false, p.2)
  | _ => none
def eOr (a b : Den) : Den := fun env st => (a env st).bind fun p => match p.1 with
  | .bl true => some (.bl true, p.2)
  | .bl false => b env p.2
  | _ => none
theorem d_one {op : BoolOp} {a : Expr} {f : Den} {pos : Pos} (ha : DE X a f) : DE X (.BoolOp op [a] pos) f := pe_one ha
theorem d_and {a b : Expr} {rest : List Expr} {f h : Den} {pos : Pos} (ha : DE X a f) (hb : DE X (.BoolOp .And (b :: rest) pos) h) : DE X (.BoolOp .And (a :: b :: rest) pos) (eAnd f h) :=
  PE.wk (pe_and ha hb) fun σ H Q ⟨W, st, env, b, st', E, S, e, k⟩ => by
    obtain ⟨⟨d, s1⟩, h1, e⟩ := Option.bind_eq_some_iff.mp e
    refine ⟨W, st, env, d, s1, E, S, h1, fun v H' W' x S' r => ?_⟩
    dsimp only at e
    split at e
    · cases r; exact ⟨true, rfl, iteT ⟨W', s1, env, b, st', E.mono x, S', e, k.mono x⟩⟩
    · cases r; cases e; exact ⟨false, rfl, iteF (k _ H' W' x S' (.bl _))⟩
    · cases e
theorem d_or {a b : Expr} {rest : List Expr} {f h : Den} {pos : Pos} (ha : DE X a f) (hb : DE X (.BoolOp .Or (b :: rest) pos) h) : DE X (.BoolOp .Or (a :: b :: rest) pos) (eOr f h) :=
  PE.wk (pe_or ha hb) fun σ H Q ⟨W, st, env, b, st', E, S, e, k⟩ => by
    obtain ⟨⟨d, s1⟩, h1, e⟩ := Option.bind_eq_some_iff.mp e
    refine ⟨W, st, env, d, s1, E, S, h1, fun v H' W' x S' r => ?_⟩
    dsimp only at e
    split at e
    · cases r; cases e; exact ⟨true, rfl, iteT (k _ H' W' x S' (.bl _))⟩
    · cases r; exact ⟨false, rfl, iteF ⟨W', s1, env, b, st', E.mono x, S', e, k.mono x⟩⟩
    · cases e
def gNot (d : D) : Option D := (truD d).map fun b => .bl (!b)
theorem d_not {a : Expr} {f : Den} {pos : Pos} (ha : DE X a f) : DE X (.UnaryOp .Not a pos) (eUn gNot f) :=
  PE.wk (pe_notT ha) fun σ H Q h => by
    obtain ⟨W, st, env, d1, s1, E, S, h1, k⟩ := un_at h
    refine ⟨W, st, env, d1, s1, E, S, h1, fun x H1 W1 x1 S1 r1 => ?_⟩
    obtain ⟨W2, st2, d, z, S2, r2, e2, k2⟩ := k x H1 W1 x1 S1 r1
    obtain ⟨b, h2, rfl⟩ := Option.map_eq_some_iff.mp e2
    exact ⟨b, truD_at S2 r2 h2, k2.now S2 (.bl _)⟩
/-- a if t else b -/
def eIf (t : DenT) (a b : Den) : Den := fun env st => (t env st).bind fun p => match p.1 with
  | true => a env p.2
  | false => b env p.2
theorem d_if {c a b : Expr} {t : DenT} {f h : Den} {pos : Pos} (hc : DT X c t) (ha : DE X a f) (hb : DE X b h) : DE X (.IfExp c a b pos) (eIf t f h) :=
  PE.wk (pe_ifExp hc ha hb) fun σ H Q ⟨W, st, env, b, st', E, S, e, k⟩ => by
    obtain ⟨⟨d, s1⟩, h1, e⟩ := Option.bind_eq_some_iff.mp e
    refine ⟨W, st, env, d, s1, E, S, h1, fun H' W' x S' => ?_⟩
    dsimp only at e
    cases d with
    | true => exact iteT ⟨W', s1, env, b, st', E.mono x, S', e, k.mono x⟩
    | false => exact iteF ⟨W', s1, env, b, st', E.mono x, S', e, k.mono x⟩
end
end Pv
namespace Pv
open PySem PySem.Spec PyProof.Rows L2
section
variable {K : PySem.W.Frag} {w : World} {H H' H1 H2 : Hp} {W W' W1 W2 : Wd} {st st' : Sto} {X : Cx}

/-! ### subscripts -/
def atD (ds : List D) (i : Int) : Option D := (ixN ds.length i).bind fun j => ds[j]?
def gIx : D → D → Option D
  | .lst ds, .int i => atD ds i
  | .tup ds, .int i => atD ds i
  | _, _ => none
theorem RepL.at_ {ds : List D} {vs : List V} {i : Int} {d : D} (l : RepL K w H W ds vs) (e : atD ds i = some d) : ∃ v, atI vs i = some v ∧ Rep K w H W d v := by
  unfold atD at e
  obtain ⟨j, h1, h2⟩ := Option.bind_eq_some_iff.mp e
  obtain ⟨v, h3, r⟩ := l.get h2
  refine ⟨v, ?_, r⟩
  unfold atI
  rw [← l.length, h1]
  exact h3
theorem IxR.wk {r r' : R2} (h : IxR X r) (k : ∀ x y H Q, r' x y H Q → r x y H Q) : IxR X r' := fun a b pins s σ H x y v u Q I r1 r2 q => h a b pins s σ H x y v u Q I r1 r2 (k x y H Q q)
theorem o_ix : IxR X (rBin X.K X.w gIx) :=
  IxR.wk (ix_list.or ix_tup) fun x y H Q ⟨W, st, d1, d2, z, S, r1, r2, e, k⟩ => by
    unfold gIx at e
    split at e
    · rename_i ds i h1 h2
      obtain ⟨a, vs, rfl, hs, l⟩ := look_lst S r1 h1
      obtain ⟨v, h3, r⟩ := l.at_ e
      exact .inl ⟨a, vs, i, v, rfl, look_int r2 h2, .of hs, h3, k.now S r⟩
    · rename_i ds i h1 h2
      obtain ⟨a, vs, rfl, hs, l⟩ := look_tup r1 h1
      obtain ⟨v, h3, r⟩ := l.at_ e
      exact .inr ⟨a, vs, i, v, rfl, look_int r2 h2, hs, h3, k.now S r⟩
    · cases e
theorem d_ixR {g : D → D → Option D} {a b : Expr} {f h : Den} {pos : Pos} (ho : IxR X (rBin X.K X.w g)) (ha : DE X a f) (hb : DE X b h) (hs : PlainIx b := by exact fun _ _ => rfl) : DE X (.Subscript a b pos) (eBin g f h) :=
  PE.wk (pe_ix ho ha hb hs) fun _ _ _ => bin_at
theorem d_ix {a b : Expr} {f h : Den} {pos : Pos} (ha : DE X a f) (hb : DE X b h) (hs : PlainIx b := by exact fun _ _ => rfl) : DE X (.Subscript a b pos) (eBin gIx f h) := d_ixR o_ix ha hb hs

/-! ### slices -/
abbrev DenO := Option Den
def oAt : Option Den → Env → Sto → Option (Option Int × Sto)
  | none, _, st => some (none, st)
  | some a, env, st => (a env st).bind fun p => match p.1 with
    | .int i => some (some i, p.2)
    | _ => none
def tO (K : PySem.W.Frag) (w : World) (o : Option Den) : TO := fun σ H Q => ∃ W st env i st', EnvR K w H W σ env ∧ StoR K w H W st ∧ oAt o env st = some (i, st') ∧ ∀ H' W', HExt H W H' W' → StoR K w H' W' st' → Q i H'
abbrev DO (X : Cx) (e : Option Expr) (o : Option Den) : Prop := PO X e (tO X.K X.w o)
theorem PO.wk {e : Option Expr} {t t' : TO} (h : PO X e t) (k : ∀ σ H Q, t' σ H Q → t σ H Q) : PO X e t' := ⟨fun pins s σ H Q I q => h.run pins s σ H Q I (k σ H Q q)⟩
theorem do_none : DO X none none := PO.wk po_none fun σ H Q ⟨W, st, env, i, st', E, S, e, k⟩ => by
  cases e
  exact k H W (.refl H W) S
theorem do_some {e : Expr} {f : Den} (h : DE X e f) : DO X (some e) (some f) := PO.wk (po_some h) fun σ H Q ⟨W, st, env, i, st', E, S, e, k⟩ => by
  unfold oAt at e
  obtain ⟨⟨d, s1⟩, h1, e⟩ := Option.bind_eq_some_iff.mp e
  dsimp only at e
  split at e
  · cases e
    refine ⟨W, st, env, _, _, E, S, h1, fun v H' W' x S' r => ?_⟩
    cases r
    exact ⟨_, rfl, k H' W' x S'⟩
  · cases e
def cutD (ds : List D) (lo hi : Option Int) : List D := (ds.drop (HT.sIx ds.length 0 lo)).take (HT.sIx ds.length ds.length hi - HT.sIx ds.length 0 lo)
theorem RepL.cut {ds : List D} {vs : List V} (l : RepL K w H W ds vs) (lo hi : Option Int) : RepL K w H W (cutD ds lo hi) (cutV vs lo hi) := by
  unfold cutD cutV
  rw [← l.length]
  exact (l.drop _).take _
def eSl (a : Den) (lo hi : Option Den) : Den := fun env st => (a env st).bind fun p => (oAt lo env p.2).bind fun q => (oAt hi env q.2).bind fun r => match look r.2 p.1 with
  | .lst ds => some (.lst (cutD ds q.1 r.1), r.2)
  | .tup ds => some (.tup (cutD ds q.1 r.1), r.2)
  | .scr ds => some (.lst (cutD ds q.1 r.1), r.2)
  | _ => none
theorem SlR.wk {r r' : V → Option Int → Option Int → Hp → VK → Prop} (h : L2.SlR X r) (k : ∀ x l u H Q, r' x l u H Q → r x l u H Q) : L2.SlR X r' := fun pins s σ H x v vl vu lo hi sl Q I rx hs pl pu q => h pins s σ H x v vl vu lo hi sl Q I rx hs pl pu (k _ _ _ _ _ q)
theorem cut_whole (ds : List D) (lo hi : Option Int) (h : HT.sIx ds.length 0 lo = 0 ∧ HT.sIx ds.length ds.length hi = ds.length) : cutD ds lo hi = ds := by
  unfold cutD
  rw [h.1, h.2, List.drop_zero, Nat.sub_zero, List.take_length]
theorem d_sl {e : Expr} {lo hi : Option Expr} {f : Den} {l u : Option Den} {p2 pos : Pos} (he : DE X e f) (hl : DO X lo l) (hu : DO X hi u) : DE X (.Subscript e (.Slice lo hi none p2) pos) (eSl f l u) :=
  PE.wk (pe_slice (sl_list.or sl_tupA) he hl hu) fun σ H Q ⟨W, st, env, d, st', E, S, e, k⟩ => by
    obtain ⟨⟨d1, s1⟩, h1, e⟩ := Option.bind_eq_some_iff.mp e
    obtain ⟨⟨i2, s2⟩, h2, e⟩ := Option.bind_eq_some_iff.mp e
    obtain ⟨⟨i3, s3⟩, h3, e⟩ := Option.bind_eq_some_iff.mp e
    refine ⟨W, st, env, d1, s1, E, S, h1, fun x H1 W1 x1 S1 r1 => ?_⟩
    refine ⟨W1, s1, env, i2, s2, E.mono x1, S1, h2, fun H2 W2 x2 S2 => ?_⟩
    refine ⟨W2, s2, env, i3, s3, (E.mono x1).mono x2, S2, h3, fun H3 W3 x3 S3 => ?_⟩
    have k' := k.mono ((x1.trans x2).trans x3)
    have r1' := Rep.mono (x2.trans x3) d1 x r1
    dsimp only at e
    split at e
    · rename_i ds hd
      cases e
      obtain ⟨a, vs, rfl, hs, l⟩ := look_lst S3 r1' hd
      exact .inl ⟨a, vs, rfl, .of hs, kn_lst S3 (l.cut _ _) k'⟩
    · rename_i ds hd
      cases e
      obtain ⟨a, vs, rfl, hs, l⟩ := look_tup r1' hd
      refine .inr ⟨a, vs, rfl, hs, fun hw => ?_, fun _ => kn_tup S3 (l.cut _ _) k'⟩
      rw [← l.length] at hw
      rw [cut_whole _ _ _ hw, ← look_self hd] at k'
      exact k'.now S3 r1'
    · rename_i ds hd
      cases e
      obtain ⟨a, vs, rfl, hs, l⟩ := look_scr r1' hd
      exact .inl ⟨a, vs, rfl, hs, kn_lst S3 (l.cut _ _) k'⟩
    · cases e
/-- xs[::-1] -/
def eRevL (a : Den) : Den := fun env st => (a env st).bind fun p => match look p.2 p.1 with
  | .lst ds => some (.lst ds.reverse, p.2)
  | _ => none
theorem d_revL {e : Expr} {f : Den} {k : Nat} {p1 p2 p3 pos : Pos} (he : DE X e f) : DE X (.Subscript e (.Slice none none (some (.UnaryOp .USub (.Constant (.int 1) k p1) p2)) p3) pos) (eRevL f) :=
  PE.wk (pe_revL he) fun σ H Q ⟨W, st, env, d, st', E, S, e, k⟩ => by
    obtain ⟨⟨d1, s1⟩, h1, e⟩ := Option.bind_eq_some_iff.mp e
    refine ⟨W, st, env, d1, s1, E, S, h1, fun x H1 W1 x1 S1 r1 => ?_⟩
    dsimp only at e
    split at e
    · rename_i ds hd
      cases e
      obtain ⟨a, vs, rfl, hs, l⟩ := look_lst S1 r1 hd
      exact ⟨a, vs, rfl, .of hs, kn_lst S1 l.reverse (k.mono x1)⟩
    · cases e

/-! ### calls of built-ins -/
def eCall (g : List D → Option D) (as : List Den) : Den := fun env st => (aAll as env st).bind fun p => (g (p.1.map (look p.2))).bind fun z => some (z, p.2)
def rCall (K : PySem.W.Frag) (w : World) (g : List D → Option D) : List V → Hp → VK → Prop := fun xs H Q => ∃ W st ds z, StoR K w H W st ∧ RepL K w H W ds xs ∧ g (ds.map (look st)) = some z ∧ Kn K w H W st z Q
theorem call_at {g : List D → Option D} {as : List Den} {σ : L2.St} {H : Hp} {Q : VK} (h : tE K w (eCall g as) σ H Q) : tCB (rCall K w g) (tA K w as) σ H Q := by
  obtain ⟨W, st, env, d, st', E, S, e, k⟩ := h
  obtain ⟨⟨ds, s1⟩, h1, e⟩ := Option.bind_eq_some_iff.mp e
  obtain ⟨z, h2, e⟩ := Option.bind_eq_some_iff.mp e
  cases e
  exact ⟨W, st, env, ds, s1, E, S, h1, fun vs H1 W1 x1 S1 r1 => ⟨W1, s1, ds, d, S1, r1, h2, k.mono x1⟩⟩
theorem CallR.wk {f : Value} {r r' : List V → Hp → VK → Prop} (h : CallR X f r) (k : ∀ x H Q, r' x H Q → r x H Q) : CallR X f r' := fun pins s σ H xs us Q I rs q => h pins s σ H xs us Q I rs (k _ _ _ q)
theorem CallR.or {f : Value} {r r' : List V → Hp → VK → Prop} (h : CallR X f r) (h' : CallR X f r') : CallR X f (fun x H Q => r x H Q ∨ r' x H Q) := fun pins s σ H xs us Q I rs q => q.elim (h pins s σ H xs us Q I rs) (h' pins s σ H xs us Q I rs)
theorem d_callB {id : String} {g : List D → Option D} {x : Str} {e : Expr} {es : List Expr} {as : List Den} {p pos : Pos} (hc : CallR X (.builtin id) (rCall X.K X.w g)) (hg : Gl X x) (hm : X.mg x = none) (hv : bootBuiltins x = some (.builtin id)) (ha : DA X (e :: es) as) (hn : x ≠ "__name__" := by decide) (hdb : (x == ("__debug__" : Str)) = false := by decide)
    (he : starEach (e :: es) X.env = (false, eval e X.env) :: starEach es X.env := by rfl) (hpl : (backTo pos (starEach es X.env)).any (·.1) = false := by rfl) : DE X (.Call (.Name x p) (e :: es) [] pos) (eCall g as) :=
  PE.wk (pe_callB hc hg hm hv ha hn hdb he hpl) fun _ _ _ => call_at
theorem d_callTy {T : String} {g : List D → Option D} {x : Str} {e : Expr} {es : List Expr} {as : List Den} {p pos : Pos} (hc : CallR X (.type T) (rCall X.K X.w g)) (hg : Gl X x) (hm : X.mg x = none) (hv : bootBuiltins x = some (.type T)) (ha : DA X (e :: es) as) (hn : x ≠ "__name__" := by decide) (hdb : (x == ("__debug__" : Str)) = false := by decide)
    (he : starEach (e :: es) X.env = (false, eval e X.env) :: starEach es X.env := by rfl) (hpl : (backTo pos (starEach es X.env)).any (·.1) = false := by rfl) : DE X (.Call (.Name x p) (e :: es) [] pos) (eCall g as) :=
  PE.wk (pe_callTy hc hg hm hv ha hn hdb he hpl) fun _ _ _ => call_at
theorem repl1 {ds : List D} {xs : List V} {e : D} (r : RepL K w H W ds xs) (h : ds.map (look st) = [e]) : ∃ d v, ds = [d] ∧ xs = [v] ∧ Rep K w H W d v ∧ look st d = e := by
  cases r with
  | nil => cases h
  | cons r1 r2 =>
    cases r2 with
    | nil => exact ⟨_, _, rfl, rfl, r1, by simpa using h⟩
    | cons _ _ => simp at h
theorem repl2 {ds : List D} {xs : List V} {e f : D} (r : RepL K w H W ds xs) (h : ds.map (look st) = [e, f]) : ∃ d v d' v', ds = [d, d'] ∧ xs = [v, v'] ∧ Rep K w H W d v ∧ look st d = e ∧ Rep K w H W d' v' ∧ look st d' = f := by
  cases r with
  | nil => cases h
  | cons r1 r2 =>
    have h' := List.cons.inj h
    obtain ⟨d', v', rfl, rfl, q, e'⟩ := repl1 r2 h'.2
    exact ⟨_, _, _, _, rfl, rfl, r1, h'.1, q, e'⟩
/-- len -/
def gLen : List D → Option D
  | [.lst ds] => some (.int ds.length)
  | [.tup ds] => some (.int ds.length)
  | _ => none
theorem c_len : CallR X (.builtin "len") (rCall X.K X.w gLen) :=
  CallR.wk call_len_seq fun xs H Q ⟨W, st, ds, z, S, r, e, k⟩ => by
    unfold gLen at e
    split at e
    · rename_i es h
      obtain ⟨d, v, rfl, rfl, q, hq⟩ := repl1 r h
      obtain ⟨a, vs, rfl, hs, l⟩ := look_lst S q hq
      cases e
      exact ⟨a, vs, rfl, .inl (.of hs), k.now S (by rw [← l.length]; exact .int _)⟩
    · rename_i es h
      obtain ⟨d, v, rfl, rfl, q, hq⟩ := repl1 r h
      obtain ⟨a, vs, rfl, hs, l⟩ := look_tup q hq
      cases e
      exact ⟨a, vs, rfl, .inr hs, k.now S (by rw [← l.length]; exact .int _)⟩
    · cases e
def gAbs : List D → Option D
  | [.int i] => some (.int (if i < 0 then -i else i))
  | _ => none
theorem c_abs : CallR X (.builtin "abs") (rCall X.K X.w gAbs) :=
  CallR.wk call_abs fun xs H Q ⟨W, st, ds, z, S, r, e, k⟩ => by
    unfold gAbs at e
    split at e
    · rename_i i h
      obtain ⟨d, v, rfl, rfl, q, hq⟩ := repl1 r h
      cases e
      exact ⟨i, by rw [look_int q hq], k.now S (.int _)⟩
    · cases e
def gMax2 : List D → Option D
  | [.int i, .int j] => some (.int (if j > i then j else i))
  | _ => none
def gMin2 : List D → Option D
  | [.int i, .int j] => some (.int (if j < i then j else i))
  | _ => none
theorem c_max2 (hc : X.calm = true) : CallR X (.builtin "max") (rCall X.K X.w gMax2) :=
  CallR.wk (call_max2 hc) fun xs H Q ⟨W, st, ds, z, S, r, e, k⟩ => by
    unfold gMax2 at e
    split at e
    · rename_i i j h
      obtain ⟨d, v, d', v', rfl, rfl, q, hq, q', hq'⟩ := repl2 r h
      cases e
      exact ⟨i, j, by rw [look_int q hq, look_int q' hq'], k.now S (.int _)⟩
    · cases e
theorem c_min2 (hc : X.calm = true) : CallR X (.builtin "min") (rCall X.K X.w gMin2) :=
  CallR.wk (call_min2 hc) fun xs H Q ⟨W, st, ds, z, S, r, e, k⟩ => by
    unfold gMin2 at e
    split at e
    · rename_i i j h
      obtain ⟨d, v, d', v', rfl, rfl, q, hq, q', hq'⟩ := repl2 r h
      cases e
      exact ⟨i, j, by rw [look_int q hq, look_int q' hq'], k.now S (.int _)⟩
    · cases e
def gInt : List D → Option D
  | [.int i] => some (.int i)
  | [.bl b] => some (.int (if b = true then 1 else 0))
  | _ => none
theorem c_int : CallR X (.type "int") (rCall X.K X.w gInt) :=
  CallR.wk call_int1 fun xs H Q ⟨W, st, ds, z, S, r, e, k⟩ => by
    unfold gInt at e
    split at e
    · rename_i i h
      obtain ⟨d, v, rfl, rfl, q, hq⟩ := repl1 r h
      cases e
      exact .inl ⟨i, by rw [look_int q hq], k.now S (.int _)⟩
    · rename_i b h
      obtain ⟨d, v, rfl, rfl, q, hq⟩ := repl1 r h
      cases e
      exact .inr ⟨b, by rw [look_bl q hq], k.now S (.int _)⟩
    · cases e
/-- tuple(xs), list(xs) -/
def gTuple : List D → Option D
  | [.lst ds] => some (.tup ds)
  | [.tup ds] => some (.tup ds)
  | _ => none
theorem c_tuple : CallR X (.type "tuple") (rCall X.K X.w gTuple) :=
  CallR.wk call_tuple_of fun xs H Q ⟨W, st, ds, z, S, r, e, k⟩ => by
    unfold gTuple at e
    split at e
    · rename_i es h
      obtain ⟨d, v, rfl, rfl, q, hq⟩ := repl1 r h
      obtain ⟨a, vs, rfl, hs, l⟩ := look_lst S q hq
      cases e
      exact ⟨a, vs, rfl, .inl ⟨.of hs, kn_tup S l k⟩⟩
    · rename_i es h
      obtain ⟨d, v, rfl, rfl, q, hq⟩ := repl1 r h
      obtain ⟨a, vs, rfl, hs, l⟩ := look_tup q hq
      cases e
      rw [look_self hq] at q
      exact ⟨a, vs, rfl, .inr ⟨hs, k.now S q⟩⟩
    · cases e
def gList : List D → Option D
  | [.lst ds] => some (.lst ds)
  | [.tup ds] => some (.lst ds)
  | _ => none
theorem list_at {xs : List V} {H : Hp} {W : Wd} {st : Sto} {ds : List D} {z : D} (S : StoR K w H W st) (r : RepL K w H W ds xs) (e : gList (ds.map (look st)) = some z) : ∃ es p ys, z = .lst es ∧ xs = [.ref p] ∧ (SqL K H p ys ∨ SqT K H p ys) ∧ RepL K w H W es ys := by
  unfold gList at e
  split at e
  · rename_i es h
    obtain ⟨d, v, rfl, rfl, q, hq⟩ := repl1 r h
    obtain ⟨a, vs, rfl, hs, l⟩ := look_lst S q hq
    cases e
    exact ⟨es, a, vs, rfl, rfl, .inl (.of hs), l⟩
  · rename_i es h
    obtain ⟨d, v, rfl, rfl, q, hq⟩ := repl1 r h
    obtain ⟨a, vs, rfl, hs, l⟩ := look_tup q hq
    cases e
    exact ⟨es, a, vs, rfl, rfl, .inr hs, l⟩
  · cases e
theorem c_list : CallR X (.type "list") (rCall X.K X.w gList) :=
  CallR.wk call_list_of fun xs H Q ⟨W, st, ds, z, S, r, e, k⟩ => by
    obtain ⟨es, p, ys, rfl, rfl, hs, l⟩ := list_at S r e
    exact ⟨p, ys, rfl, hs, kn_lst S l k⟩
/-- a list that will be changed, made by a call -/
def eCallR (g : List D → Option D) (as : List Den) : Den := fun env st => (aAll as env st).bind fun p => match g (p.1.map (look p.2)) with
  | some (.lst ds) => some (.ref p.2.length, p.2 ++ [.lst ds])
  | _ => none
def rCallR (K : PySem.W.Frag) (w : World) (g : List D → Option D) : List V → Hp → VK → Prop := fun xs H Q => ∃ W st ds es, StoR K w H W st ∧ RepL K w H W ds xs ∧ g (ds.map (look st)) = some (.lst es) ∧ Kn K w H W (st ++ [.lst es]) (.ref st.length) Q
theorem callR_at {g : List D → Option D} {as : List Den} {σ : L2.St} {H : Hp} {Q : VK} (h : tE K w (eCallR g as) σ H Q) : tCB (rCallR K w g) (tA K w as) σ H Q := by
  obtain ⟨W, st, env, d, st', E, S, e, k⟩ := h
  obtain ⟨⟨ds, s1⟩, h1, e⟩ := Option.bind_eq_some_iff.mp e
  dsimp only at e
  split at e
  · rename_i es h2
    cases e
    exact ⟨W, st, env, ds, s1, E, S, h1, fun vs H1 W1 x1 S1 r1 => ⟨W1, s1, ds, es, S1, r1, h2, k.mono x1⟩⟩
  · cases e
theorem c_listR : CallR X (.type "list") (rCallR X.K X.w gList) :=
  CallR.wk call_list_of fun xs H Q ⟨W, st, ds, z, S, r, e, k⟩ => by
    obtain ⟨es, p, ys, hz, rfl, hs, l⟩ := list_at S r e
    cases hz
    exact ⟨p, ys, rfl, hs, kn_lstR S l k⟩
theorem d_callTyR {T : String} {g : List D → Option D} {x : Str} {e : Expr} {es : List Expr} {as : List Den} {p pos : Pos} (hc : CallR X (.type T) (rCallR X.K X.w g)) (hg : Gl X x) (hm : X.mg x = none) (hv : bootBuiltins x = some (.type T)) (ha : DA X (e :: es) as) (hn : x ≠ "__name__" := by decide) (hdb : (x == ("__debug__" : Str)) = false := by decide)
    (he : starEach (e :: es) X.env = (false, eval e X.env) :: starEach es X.env := by rfl) (hpl : (backTo pos (starEach es X.env)).any (·.1) = false := by rfl) : DE X (.Call (.Name x p) (e :: es) [] pos) (eCallR g as) :=
  PE.wk (pe_callTy hc hg hm hv ha hn hdb he hpl) fun _ _ _ => callR_at

/-- sums, all, any -/
def intsD : List D → Option (List Int)
  | [] => some []
  | .int i :: ds => (intsD ds).map (i :: ·)
  | _ :: _ => none
def blsD : List D → Option (List Bool)
  | [] => some []
  | .bl i :: ds => (blsD ds).map (i :: ·)
  | _ :: _ => none
theorem intsD_at : ∀ {ds : List D} {vs : List V} {ns : List Int}, RepL K w H W ds vs → intsD ds = some ns → vs = ns.map V.int
  | [], _, ns, r, e => by cases r; cases e; rfl
  | d :: ds, _, ns, r, e => by
    cases r with
    | cons r1 r2 =>
      cases d with
      | int i =>
        obtain ⟨ms, h, rfl⟩ := Option.map_eq_some_iff.mp e
        cases r1
        rw [intsD_at r2 h]; rfl
      | _ => cases e
theorem blsD_at : ∀ {ds : List D} {vs : List V} {ns : List Bool}, RepL K w H W ds vs → blsD ds = some ns → vs = ns.map V.bl
  | [], _, ns, r, e => by cases r; cases e; rfl
  | d :: ds, _, ns, r, e => by
    cases r with
    | cons r1 r2 =>
      cases d with
      | bl i =>
        obtain ⟨ms, h, rfl⟩ := Option.map_eq_some_iff.mp e
        cases r1
        rw [blsD_at r2 h]; rfl
      | _ => cases e
def gSum : List D → Option D
  | [.lst ds] => (intsD ds).map fun ns => .int ns.sum
  | _ => none
def gAll : List D → Option D
  | [.lst ds] => (blsD ds).map fun ns => .bl (ns.all id)
  | _ => none
theorem c_sum (hc : X.calm = true) : CallR X (.builtin "sum") (rCall X.K X.w gSum) :=
  CallR.wk (cr_sum hc) fun xs H Q ⟨W, st, ds, z, S, r, e, k⟩ => by
    unfold gSum at e
    split at e
    · rename_i es h
      obtain ⟨d, v, rfl, rfl, q, hq⟩ := repl1 r h
      obtain ⟨a, vs, rfl, hs, l⟩ := look_lst S q hq
      obtain ⟨ns, h1, rfl⟩ := Option.map_eq_some_iff.mp e
      have := intsD_at l h1
      subst this
      exact ⟨a, ns, rfl, .of hs, k.now S (.int _)⟩
    · cases e
theorem c_all (hc : X.calm = true) : CallR X (.builtin "all") (rCall X.K X.w gAll) :=
  CallR.wk (cr_all hc) fun xs H Q ⟨W, st, ds, z, S, r, e, k⟩ => by
    unfold gAll at e
    split at e
    · rename_i es h
      obtain ⟨d, v, rfl, rfl, q, hq⟩ := repl1 r h
      obtain ⟨a, vs, rfl, hs, l⟩ := look_lst S q hq
      obtain ⟨ns, h1, rfl⟩ := Option.map_eq_some_iff.mp e
      have := blsD_at l h1
      subst this
      exact ⟨a, ns, rfl, .of hs, k.now S (.bl _)⟩
    · cases e

/-! ### isinstance -/
def tyD : D → Option String
  | .non => some "NoneType"
  | .bl _ => some "bool"
  | .int _ => some "int"
  | .str _ => some "str"
  | .tup _ => some "tuple"
  | .lst _ => some "list"
  | _ => none
theorem tyD_at {d : D} {v : V} {t : String} (S : StoR K w H W st) (r : Rep K w H W d v) (e : tyD (look st d) = some t) : TyX K H v (.type t) := by
  unfold tyD at e
  split at e
  · rename_i h; cases e; rw [look_non r h]; exact .base .non
  · rename_i h; cases e; rw [look_bl r h]; exact .base (.bl _)
  · rename_i h; cases e; rw [look_int r h]; exact .base (.int _)
  · rename_i h; cases e; rw [look_str r h]; exact .base (.str _)
  · rename_i h
    cases e
    obtain ⟨a, vs, rfl, hs, l⟩ := look_tup r h
    rcases hs with (h1 | ⟨o, h1⟩) | ⟨o, its, n, h1, h2, _⟩
    · exact .base (.tup h1)
    · exact .fTuple h1
    · exact .kTuple h1 h2
  · rename_i h
    cases e
    obtain ⟨a, vs, rfl, hs, l⟩ := look_lst S r h
    exact .base (.lst hs)
  · cases e
/-- isinstance(x, T), T a built-in type's name -/
def eIsi (T : String) (a : Den) : Den := fun env st => (a env st).bind fun p => (tyD (look p.2 p.1)).bind fun t => (kitB t T).bind fun b => some (.bl b, p.2)
theorem d_isi {T : Str} {n : String} {a : Expr} {f : Den} {p p2 pos : Pos} (ha : DE X a f) (hg : Gl X "isinstance") (hm : X.mg "isinstance" = none) (hgT : Gl X T) (hmT : X.mg T = none) (hvT : bootBuiltins T = some (.type n)) (hT : T ≠ "__name__" := by decide) (hTd : (T == ("__debug__" : Str)) = false := by decide)
    (he : starEach [a, .Name T p2] X.env = (false, eval a X.env) :: starEach [.Name T p2] X.env := by rfl) : DE X (.Call (.Name "isinstance" p) [a, .Name T p2] [] pos) (eIsi n f) :=
  PE.wk (pe_callB call_isi hg hm (by decide +kernel) (pa_cons ha (pa_cons (pe_bltn hgT hmT hvT (v := .ty n) rfl hT hTd) pa_nil) he) (by decide) (by decide) he) fun σ H Q ⟨W, st, env, d, st', E, S, e, k⟩ => by
    obtain ⟨⟨d1, s1⟩, h1, e⟩ := Option.bind_eq_some_iff.mp e
    obtain ⟨t, h2, e⟩ := Option.bind_eq_some_iff.mp e
    obtain ⟨b, h3, e⟩ := Option.bind_eq_some_iff.mp e
    cases e
    refine ⟨W, st, env, d1, s1, E, S, h1, fun v H1 W1 x1 S1 r1 => ?_⟩
    exact ⟨v, .ty n, .type t, .type n, b, rfl, .ty n, tyD_at S1 r1 h2, kit_ty h3, k _ H1 W1 x1 S1 (.bl b)⟩
end
end Pv
namespace Pv
open PySem PySem.Spec PyProof.Rows L2

inductive Fl where
  | nx | rt (d : D) | bk | ct
abbrev DenS := Env → Sto → Option (Fl × Env × Sto)
abbrev DenG := D → Env → Sto → Option (Env × Sto)
abbrev DenGs := List D → Env → Sto → Option (Env × Sto)
abbrev DenI := Env → Sto → Option (List D × Sto)

section
variable (K : PySem.W.Frag) (w : World)
/-- what follows a statement -/
def KnS (H : Hp) (W : Wd) (st : Sto) (env : Env) (fl : Fl) (E : Ends) : Prop := ∀ σ' H' W', HExt H W H' W' → StoR K w H' W' st → EnvR K w H' W' σ' env → match fl with
  | .nx => E.nx σ' H'
  | .bk => E.bk σ' H'
  | .ct => E.ct σ' H'
  | .rt d => ∀ v, Rep K w H' W' d v → E.rt v H'
def KnG (H : Hp) (W : Wd) (st : Sto) (env : Env) (Q : L2.St → Hp → Prop) : Prop := ∀ σ' H' W', HExt H W H' W' → StoR K w H' W' st → EnvR K w H' W' σ' env → Q σ' H'
def tS (f : DenS) : TS := fun E σ H => ∃ W st env fl env' st', EnvR K w H W σ env ∧ StoR K w H W st ∧ f env st = some (fl, env', st') ∧ KnS K w H W st' env' fl E
def tG (g : DenG) : TG := fun v σ H Q => ∃ W st env d env' st', EnvR K w H W σ env ∧ StoR K w H W st ∧ Rep K w H W d v ∧ g d env st = some (env', st') ∧ KnG K w H W st' env' Q
def tGs (g : DenGs) : TGs := fun vs σ H Q => ∃ W st env ds env' st', EnvR K w H W σ env ∧ StoR K w H W st ∧ RepL K w H W ds vs ∧ g ds env st = some (env', st') ∧ KnG K w H W st' env' Q
end
abbrev DS (X : Cx) (s : Stmt) (f : DenS) : Prop := PS X s (tS X.K X.w f)
abbrev DSs (X : Cx) (s : List Stmt) (f : DenS) : Prop := PSs X s (tS X.K X.w f)
abbrev DG (X : Cx) (e : Expr) (g : DenG) : Prop := PG X e (tG X.K X.w g)
abbrev DGs (X : Cx) (e : List Expr) (g : DenGs) : Prop := PGs X e (tGs X.K X.w g)

section
variable {K : PySem.W.Frag} {w : World} {H H' H1 H2 : Hp} {W W' W1 W2 : Wd} {st st' : Sto} {X : Cx}
theorem PS.wk {e : Stmt} {t t' : TS} (h : PS X e t) (k : ∀ D σ H, t' D σ H → t D σ H) : PS X e t' := ⟨fun pins s σ H D I q => h.run pins s σ H D I (k D σ H q)⟩
theorem PSs.wk {e : List Stmt} {t t' : TS} (h : PSs X e t) (k : ∀ D σ H, t' D σ H → t D σ H) : PSs X e t' := ⟨fun pins s σ H D I q => h.run pins s σ H D I (k D σ H q)⟩
theorem PG.wk {e : Expr} {t t' : TG} (h : PG X e t) (k : ∀ v σ H Q, t' v σ H Q → t v σ H Q) : PG X e t' := ⟨fun pins s σ H v u Q I r q => h.run pins s σ H v u Q I r (k v σ H Q q)⟩
theorem PGs.wk {e : List Expr} {t t' : TGs} (h : PGs X e t) (k : ∀ v σ H Q, t' v σ H Q → t v σ H Q) : PGs X e t' := ⟨fun pins s σ H v u Q I r q => h.run pins s σ H v u Q I r (k v σ H Q q)⟩
theorem KnS.mono {env : Env} {fl : Fl} {E : Ends} (k : KnS K w H W st env fl E) (x : HExt H W H1 W1) : KnS K w H1 W1 st env fl E := fun σ' H' W' y => k σ' H' W' (x.trans y)
theorem KnG.mono {env : Env} {Q : L2.St → Hp → Prop} (k : KnG K w H W st env Q) (x : HExt H W H1 W1) : KnG K w H1 W1 st env Q := fun σ' H' W' y => k σ' H' W' (x.trans y)

/-! ### blocks -/
def sNil : DenS := fun env st => some (.nx, env, st)
def sSeq (a b : DenS) : DenS := fun env st => (a env st).bind fun p => match p.1 with
  | .nx => b p.2.1 p.2.2
  | _ => some p
theorem s_nil : DSs X [] sNil := PSs.wk pss_nil fun D σ H ⟨W, st, env, fl, env', st', E, S, e, k⟩ => by
  cases e
  exact k σ H W (.refl H W) S E
theorem s_cons {s : Stmt} {ss : List Stmt} {a b : DenS} (h1 : DS X s a) (h2 : DSs X ss b) : DSs X (s :: ss) (sSeq a b) :=
  PSs.wk (pss_cons h1 h2) fun D σ H ⟨W, st, env, fl, env', st', E, S, e, k⟩ => by
    obtain ⟨⟨fl1, env1, st1⟩, h1, e⟩ := Option.bind_eq_some_iff.mp e
    refine ⟨W, st, env, fl1, env1, st1, E, S, h1, fun σ' H' W' x S' E' => ?_⟩
    dsimp only at e
    cases fl1 with
    | nx => exact ⟨W', st1, env1, fl, env', st', E', S', e, k.mono x⟩
    | bk => cases e; exact k σ' H' W' x S' E'
    | ct => cases e; exact k σ' H' W' x S' E'
    | rt d => cases e; exact k σ' H' W' x S' E'
theorem s_one {s : Stmt} {a : DenS} (h1 : DS X s a) : DSs X [s] a := pss_one h1
def sPass : DenS := sNil
def sBreak : DenS := fun env st => some (.bk, env, st)
def sCont : DenS := fun env st => some (.ct, env, st)
theorem s_pass {pos : Pos} : DS X (.Pass pos) sPass := PS.wk ps_pass fun D σ H ⟨W, st, env, fl, env', st', E, S, e, k⟩ => by
  cases e
  exact k σ H W (.refl H W) S E
theorem s_break {pos : Pos} : DS X (.Break pos) sBreak := PS.wk ps_break fun D σ H ⟨W, st, env, fl, env', st', E, S, e, k⟩ => by
  cases e
  exact k σ H W (.refl H W) S E
theorem s_cont {pos : Pos} : DS X (.Continue pos) sCont := PS.wk ps_continue fun D σ H ⟨W, st, env, fl, env', st', E, S, e, k⟩ => by
  cases e
  exact k σ H W (.refl H W) S E
def sRet (a : Den) : DenS := fun env st => (a env st).bind fun p => some (.rt p.1, env, p.2)
theorem s_ret {e : Expr} {a : Den} {pos : Pos} (h : DE X e a) : DS X (.Return (some e) pos) (sRet a) :=
  PS.wk (ps_ret h) fun D σ H ⟨W, st, env, fl, env', st', E, S, e, k⟩ => by
    obtain ⟨⟨d, s1⟩, h1, e⟩ := Option.bind_eq_some_iff.mp e
    cases e
    exact ⟨W, st, env, d, s1, E, S, h1, fun v H' W' x S' r => k σ H' W' x S' (E.mono x) v r⟩
def sExpr (a : Den) : DenS := fun env st => (a env st).bind fun p => some (.nx, env, p.2)
theorem s_expr {e : Expr} {a : Den} {pos : Pos} (h : DE X e a) (hs : swapsWith e none pos.line X.env = pure false := by rfl) : DS X (.Expr e pos) (sExpr a) :=
  PS.wk (ps_expr h hs) fun D σ H ⟨W, st, env, fl, env', st', E, S, e, k⟩ => by
    obtain ⟨⟨d, s1⟩, h1, e⟩ := Option.bind_eq_some_iff.mp e
    cases e
    exact ⟨W, st, env, d, s1, E, S, h1, fun v H' W' x S' r => k σ H' W' x S' (E.mono x)⟩
def sIf (t : DenT) (a b : DenS) : DenS := fun env st => (t env st).bind fun p => match p.1 with
  | true => a env p.2
  | false => b env p.2
theorem s_if {c : Expr} {a b : List Stmt} {t : DenT} {f g : DenS} {pos : Pos} (hc : DT X c t) (ha : DSs X a f) (hb : DSs X b g) : DS X (.If c a b pos) (sIf t f g) :=
  PS.wk (ps_if hc ha hb) fun D σ H ⟨W, st, env, fl, env', st', E, S, e, k⟩ => by
    obtain ⟨⟨d, s1⟩, h1, e⟩ := Option.bind_eq_some_iff.mp e
    refine ⟨W, st, env, d, s1, E, S, h1, fun H' W' x S' => ?_⟩
    dsimp only at e
    cases d with
    | true => exact iteT ⟨W', s1, env, fl, env', st', E.mono x, S', e, k.mono x⟩
    | false => exact iteF ⟨W', s1, env, fl, env', st', E.mono x, S', e, k.mono x⟩

/-! ### targets, assignments -/
theorem EnvR.set {σ : L2.St} {env : Env} {i : Nat} {d : D} {v : V} (E : EnvR K w H W σ env) (r : Rep K w H W d v) : EnvR K w H W (σ.set i (some v)) (env.set i (some d)) := by
  refine ⟨by rw [List.length_set, List.length_set]; exact E.len, fun j e h => ?_⟩
  by_cases hj : i = j
  · subst hj
    by_cases hl : i < env.length
    · rw [List.getElem?_set_self hl] at h
      cases h
      exact ⟨v, by rw [List.getElem?_set_self (by rw [E.len]; exact hl)], r⟩
    · rw [List.getElem?_eq_none (by rw [List.length_set]; exact Nat.le_of_not_lt hl)] at h; cases h
  · rw [List.getElem?_set_ne hj] at h
    obtain ⟨u, h1, h2⟩ := E.at_ j e h
    exact ⟨u, by rw [List.getElem?_set_ne hj]; exact h1, h2⟩
def gNm (i : Nat) : DenG := fun d env st => some (env.set i (some d), st)
theorem g_name {i : Nat} {x : Str} {pos : Pos} (hN : X.N.Nodup) (hi : X.N[i]? = some x := by rfl) (hx : Loc X.env.scope x := by first | exact Or.inl rfl | exact Or.inr rfl) (hf : X.fn x = true ∨ X.env.scope.names.lookup x = some .local := by first | exact .inl rfl | exact .inr rfl) : DG X (.Name x pos) (gNm i) :=
  PG.wk (pg_name hN hi hx hf) fun v σ H Q ⟨W, st, env, d, env', st', E, S, r, e, k⟩ => by
    cases e
    exact k _ H W (.refl H W) S (E.set r)
def gsNil : DenGs := fun ds env st => match ds with
  | [] => some (env, st)
  | _ => none
def gsCons (g : DenG) (h : DenGs) : DenGs := fun ds env st => match ds with
  | [] => none
  | d :: ds => (g d env st).bind fun p => h ds p.1 p.2
theorem gs_nil : DGs X [] gsNil := PGs.wk pgs_nil fun vs σ H Q ⟨W, st, env, ds, env', st', E, S, r, e, k⟩ => by
  cases r with
  | nil => cases e; exact ⟨rfl, k _ H W (.refl H W) S E⟩
  | cons _ _ => cases e
theorem gs_cons {e : Expr} {es : List Expr} {g : DenG} {h : DenGs} (h1 : DG X e g) (h2 : DGs X es h) (hs : (assignEach (e :: es) X.env).map (·.2) = assign e X.env :: (assignEach es X.env).map (·.2) := by rfl) : DGs X (e :: es) (gsCons g h) :=
  PGs.wk (pgs_cons h1 h2 hs) fun vs σ H Q ⟨W, st, env, ds, env', st', E, S, r, e, k⟩ => by
    cases r with
    | nil => cases e
    | cons r1 r2 =>
      obtain ⟨⟨env1, s1⟩, h1, e⟩ := Option.bind_eq_some_iff.mp e
      refine ⟨_, _, rfl, W, st, env, _, env1, s1, E, S, r1, h1, fun σ' H' W' x S' E' => ?_⟩
      exact ⟨W', s1, env1, _, env', st', E', S', RepL.mono x _ _ r2, e, k.mono x⟩
def gTup (n : Nat) (g : DenGs) : DenG := fun d env st => match look st d with
  | .tup ds => if ds.length = n then g ds env st else none
  | .lst ds => if ds.length = n then g ds env st else none
  | _ => none
theorem PG.or {e : Expr} {t t' : TG} (h : PG X e t) (h' : PG X e t') : PG X e (fun v σ H Q => t v σ H Q ∨ t' v σ H Q) := ⟨fun pins s σ H v u Q I r q => q.elim (h.run pins s σ H v u Q I r) (h'.run pins s σ H v u Q I r)⟩
theorem g_tup {es : List Expr} {k : Nat} {g : DenGs} {n : Nat} {pos : Pos} (hc : X.calm = true) (h : DGs X es g) (hn : (assignEach es X.env).length = n := by rfl) (hst : (assignEach es X.env).findIdx? (·.1) = none := by rfl) : DG X (.Tuple es k pos) (gTup n g) :=
  PG.wk (PG.or (pg_tup hc h hn hst) (pg_unl hc h hn hst)) fun v σ H Q ⟨W, st, env, d, env', st', E, S, r, e, k⟩ => by
    unfold gTup at e
    split at e
    · rename_i ds hd
      split at e
      · rename_i hl
        obtain ⟨a, vs, rfl, hs, l⟩ := look_tup r hd
        exact .inl ⟨a, vs, rfl, hs, by rw [← l.length]; exact hl, W, st, env, ds, env', st', E, S, l, e, k⟩
      · cases e
    · rename_i ds hd
      split at e
      · rename_i hl
        obtain ⟨a, vs, rfl, hs, l⟩ := look_lst S r hd
        exact .inr ⟨a, vs, rfl, .of hs, by rw [← l.length]; exact hl, W, st, env, ds, env', st', E, S, l, e, k⟩
      · cases e
    · cases e
def sAsg (a : Den) (g : DenG) : DenS := fun env st => (a env st).bind fun p => (g p.1 env p.2).bind fun q => some (.nx, q.1, q.2)
theorem asg_at {a : Den} {g : DenG} {D : Ends} {σ : L2.St} {H : Hp} (h : tS K w (sAsg a g) D σ H) : tAsg (tE K w a) (tG K w g) D σ H := by
  obtain ⟨W, st, env, fl, env', st', E, S, e, k⟩ := h
  obtain ⟨⟨d, s1⟩, h1, e⟩ := Option.bind_eq_some_iff.mp e
  obtain ⟨⟨env1, s2⟩, h2, e⟩ := Option.bind_eq_some_iff.mp e
  cases e
  refine ⟨W, st, env, d, s1, E, S, h1, fun v H' W' x S' r => ?_⟩
  exact ⟨W', s1, env, d, _, _, E.mono x, S', r, h2, fun σ' H2 W2 y S2 E2 => k σ' H2 W2 (x.trans y) S2 E2⟩
theorem s_asg {tg e : Expr} {a : Den} {g : DenG} {pos : Pos} (he : DE X e a) (hg : DG X tg g) (hs : swapsWithSole [tg] e pos.line X.env = pure false := by rfl) (hw : swappedStores [tg] e X.env = pure none := by rfl) (h1 : (assignEach [tg] X.env).map (·.2) = [assign tg X.env] := by rfl) : DS X (.Assign [tg] e pos) (sAsg a g) :=
  PS.wk (ps_asg he hg hs hw h1) fun _ _ _ => asg_at
/-- a, b = x, y -/
def sPar (i j : Nat) (as : List Den) : DenS := fun env st => (aAll as env st).bind fun p => match p.1 with
  | [a, b] => some (.nx, (env.set i (some a)).set j (some b), p.2)
  | _ => none
theorem s_par {i j : Nat} {x y : Str} {a b : Expr} {as : List Den} {px py pt pos : Pos} {kt k2 pt2} (hc : X.calm = true) (hN : X.N.Nodup) (ha : DA X [a, b] as) (hi : X.N[i]? = some x := by rfl) (hj : X.N[j]? = some y := by rfl) (hij : i ≠ j := by decide)
    (hx : X.env.scope.names.lookup x = some .local := by rfl) (hy : X.env.scope.names.lookup y = some .local := by rfl)
    (hw : swappedStores [.Tuple [.Name x px, .Name y py] kt pt] (.Tuple [a, b] k2 pt2) X.env = pure (some [x, y]) := by rfl)
    (hs : swapsWithSole [.Tuple [.Name x px, .Name y py] kt pt] (.Tuple [a, b] k2 pt2) pos.line X.env = pure false := by rfl) :
    DS X (.Assign [.Tuple [.Name x px, .Name y py] kt pt] (.Tuple [a, b] k2 pt2) pos) (sPar i j as) :=
  PS.wk (ps_par hc hN hi hj hij hx hy ha hw hs) fun D σ H ⟨W, st, env, fl, env', st', E, S, e, k⟩ => by
    obtain ⟨⟨ds, s1⟩, h1, e⟩ := Option.bind_eq_some_iff.mp e
    refine ⟨W, st, env, ds, s1, E, S, h1, fun vs H' W' x S' r => ?_⟩
    dsimp only at e
    split at e
    · cases e
      cases r with
      | cons r1 r2 =>
        cases r2 with
        | cons r2 r3 =>
          cases r3
          exact ⟨_, _, rfl, k _ H' W' x S' (((E.mono x).set r1).set r2)⟩
    · cases e
/-- o[i] = v -/
def gSubD (o i : Den) (g : D → D → D → Sto → Option Sto) : DenG := fun d env st => (o env st).bind fun p => (i env p.2).bind fun q => (g p.1 q.1 d q.2).bind fun s => some (env, s)
def rSet (K : PySem.W.Frag) (w : World) (g : D → D → D → Sto → Option Sto) : TSet := fun o i v H Q => ∃ W st d1 d2 d3 st', StoR K w H W st ∧ Rep K w H W d1 o ∧ Rep K w H W d2 i ∧ Rep K w H W d3 v ∧ g d1 d2 d3 st = some st' ∧ ∀ H' W', HExt H W H' W' → StoR K w H' W' st' → Q H'
theorem PSet.wk {r r' : TSet} (h : PSet X r) (k : ∀ o i v H Q, r' o i v H Q → r o i v H Q) : PSet X r' := fun pins s σ H o i v ov iv u Q I r1 r2 r3 q => h pins s σ H o i v ov iv u Q I r1 r2 r3 (k _ _ _ _ _ q)
theorem PSet.or {r r' : TSet} (h : PSet X r) (h' : PSet X r') : PSet X (fun o i v H Q => r o i v H Q ∨ r' o i v H Q) := fun pins s σ H o i v ov iv u Q I r1 r2 r3 q => q.elim (h pins s σ H o i v ov iv u Q I r1 r2 r3) (h' pins s σ H o i v ov iv u Q I r1 r2 r3)
theorem g_sub {o i : Expr} {f h : Den} {g : D → D → D → Sto → Option Sto} {pos : Pos} (hs : PSet X (rSet X.K X.w g)) (ho : DE X o f) (hi : DE X i h) (ha : ∀ v, assign (.Subscript o i pos) X.env v = (do
      let ov ← holding [v] (eval o X.env)
      let iv ← holding [v, ov] (eval i X.env)
      standAt pos
      holding [v, ov, iv] (setItem ov iv v)
      release [v, ov, iv] []) := by intro _; rfl) : DG X (.Subscript o i pos) (gSubD f h g) :=
  PG.wk (pg_sub ho hi hs ha) fun v σ H Q ⟨W, st, env, d, env', st', E, S, r, e, k⟩ => by
    obtain ⟨⟨d1, s1⟩, h1, e⟩ := Option.bind_eq_some_iff.mp e
    obtain ⟨⟨d2, s2⟩, h2, e⟩ := Option.bind_eq_some_iff.mp e
    obtain ⟨s3, h3, e⟩ := Option.bind_eq_some_iff.mp e
    cases e
    refine ⟨W, st, env, d1, s1, E, S, h1, fun x H1 W1 x1 S1 r1 => ?_⟩
    refine ⟨W1, s1, env, d2, s2, E.mono x1, S1, h2, fun y H2 W2 x2 S2 r2 => ?_⟩
    refine ⟨W2, s2, d1, d2, d, st', S2, Rep.mono x2 d1 x r1, r2, Rep.mono (x1.trans x2) d v r, h3, fun H3 W3 x3 S3 => ?_⟩
    have x := (x1.trans x2).trans x3
    exact k σ H3 W3 x S3 (E.mono x)
def setL (d1 d2 d3 : D) (st : Sto) : Option Sto := match d1, d2 with
  | .ref n, .int i => match st[n]? with
    | some (.lst ds) => (ixN ds.length i).bind fun j => some (st.set n (.lst (ds.set j d3)))
    | _ => none
  | _, _ => none
theorem setL_inv {d1 d2 d3 : D} {st st' : Sto} (e : setL d1 d2 d3 st = some st') : ∃ n i ds j, d1 = .ref n ∧ d2 = .int i ∧ st[n]? = some (SO.lst ds) ∧ ixN ds.length i = some j ∧ st' = st.set n (.lst (ds.set j d3)) := by
  unfold setL at e
  split at e
  · split at e
    · rename_i h
      obtain ⟨j, h1, e⟩ := Option.bind_eq_some_iff.mp e
      cases e
      exact ⟨_, _, _, j, rfl, rfl, h, h1, rfl⟩
    · cases e
  · cases e
theorem o_setL : PSet X (rSet X.K X.w setL) :=
  PSet.wk set_list fun o i v H Q ⟨W, st, d1, d2, d3, st', S, r1, r2, r3, e, k⟩ => by
    obtain ⟨n, m, ds, j, rfl, rfl, hd, hj, rfl⟩ := setL_inv e
    obtain ⟨a, rfl, hm, q⟩ := r1.ref_at S hd (by intro z; cases z)
    cases q with
    | @lst _ _ vs h1 l =>
      cases r2
      refine ⟨a, vs, m, j, rfl, rfl, h1, by rw [← l.length]; exact hj, ?_⟩
      have x : HExt H W (upd H a (.lst (List.set vs j v))) W := HExt.write (List.mem_iff_getElem?.mpr ⟨n, hm⟩)
      exact k _ W x (S.write hm (.lst upd_same ((RepL.mono x _ _ l).set (Rep.mono x _ _ r3) j)))
/-- a freezing of what is held in a slot: no code -/
def frz (st : Sto) (n : Nat) : Option (D × Sto) := match st[n]? with
  | some (.lst ds) => some (.lst ds, st.set n .dead)
  | some (.dct t ks vs) => some (.dct t ks vs, st.set n .dead)
  | _ => none
def sFrz (i : Nat) (b : DenS) : DenS := fun env st => match env[i]? with
  | some (some (.ref n)) => match frz st n with
    | some (d, st') => b (env.set i (some d)) st'
    | none => none
  | _ => none
abbrev Wd.del (W : Wd) (n : Nat) : Wd := { W with mu := W.mu.set n none }
theorem HExt.del {n : Nat} : HExt H W H (W.del n) where
  pi := rfl
  len := by show W.mu.length ≤ (W.mu.set n none).length; rw [List.length_set]; exact Nat.le_refl _
  old := fun m a hm e => by
    have e : (W.mu.set n none)[m]? = some (some a) := e
    by_cases h : n = m
    · subst h; rw [List.getElem?_set_self hm] at e; cases e
    · rw [List.getElem?_set_ne h] at e; exact e
  new := fun m a hm e => by
    have e : (W.mu.set n none)[m]? = some (some a) := e
    rw [List.getElem?_eq_none (by rw [List.length_set]; exact hm)] at e; cases e
  keep := fun _ _ h _ => h
  held := fun _ o h => ⟨o, h⟩
theorem StoR.del {st : Sto} {n : Nat} {a : Addr} (S : StoR K w H W st) (hn : W.mu[n]? = some (some a)) : StoR K w H (W.del n) (st.set n .dead) ∧ ¬ (W.del n).pr a := by
  have hl : n < W.mu.length := (List.getElem?_eq_some_iff.mp hn).1
  have old : ∀ (m : Nat) (b : Addr), (W.mu.set n none)[m]? = some (some b) → m ≠ n ∧ W.mu[m]? = some (some b) := fun m b e => by
    by_cases h : n = m
    · subst h; rw [List.getElem?_set_self hl] at e; cases e
    · rw [List.getElem?_set_ne h] at e; exact ⟨Ne.symm h, e⟩
  refine ⟨⟨?_, fun m b e => ?_, fun m e => ?_, fun i j b e1 e2 => ?_, fun b e => ?_, S.pih⟩, fun z => ?_⟩
  · show (W.mu.set n none).length = _
    rw [List.length_set, List.length_set]; exact S.len
  · obtain ⟨h1, h2⟩ := old m b e
    obtain ⟨so, h3, r⟩ := S.so m b h2
    exact ⟨so, by rw [List.getElem?_set_ne (Ne.symm h1)]; exact h3, r.mono .del fun _ h => h⟩
  · have e : (W.mu.set n none)[m]? = some none := e
    by_cases h : n = m
    · subst h; rw [List.getElem?_set_self (by rw [← S.len]; exact hl)]
    · rw [List.getElem?_set_ne h] at e
      rw [List.getElem?_set_ne h]
      exact S.dead m e
  · exact S.inj i j b (old i b e1).2 (old j b e2).2
  · obtain ⟨m, e⟩ := List.mem_iff_getElem?.mp e
    exact S.npi b (List.mem_iff_getElem?.mpr ⟨m, (old m b e).2⟩)
  · rcases z with z | z
    · obtain ⟨m, e⟩ := List.mem_iff_getElem?.mp z
      obtain ⟨h1, h2⟩ := old m a e
      exact h1 (S.inj m n a h2 hn)
    · exact S.npi a (List.mem_iff_getElem?.mpr ⟨n, hn⟩) z
theorem frz_at {st st' : Sto} {n : Nat} {d : D} {v : V} (S : StoR K w H W st) (r : Rep K w H W (.ref n) v) (e : frz st n = some (d, st')) : HExt H W H (W.del n) ∧ StoR K w H (W.del n) st' ∧ Rep K w H (W.del n) d v := by
  unfold frz at e
  split at e
  · rename_i ds h
    cases e
    obtain ⟨a, rfl, hm, q⟩ := r.ref_at S h (by intro z; cases z)
    obtain ⟨h1, h2⟩ := S.del hm
    cases q with
    | lst q1 l => exact ⟨.del, h1, .lst h2 q1 (RepL.mono .del _ _ l)⟩
  · rename_i t ks vs h
    cases e
    obtain ⟨a, rfl, hm, q⟩ := r.ref_at S h (by intro z; cases z)
    obtain ⟨h1, h2⟩ := S.del hm
    cases q with
    | dct q1 ok l m => exact ⟨.del, h1, .dct h2 q1 ok (RepL.mono .del _ _ l) (RepL.mono .del _ _ m)⟩
  · cases e
theorem EnvR.put {σ : L2.St} {env : Env} {i : Nat} {d : D} {v : V} (E : EnvR K w H W σ env) (h : σ[i]? = some (some v)) (r : Rep K w H W d v) : EnvR K w H W σ (env.set i (some d)) := by
  refine ⟨by rw [List.length_set]; exact E.len, fun j e q => ?_⟩
  by_cases hj : i = j
  · subst hj
    by_cases hl : i < env.length
    · rw [List.getElem?_set_self hl] at q
      cases q
      exact ⟨v, h, r⟩
    · rw [List.getElem?_eq_none (by rw [List.length_set]; exact Nat.le_of_not_lt hl)] at q; cases q
  · rw [List.getElem?_set_ne hj] at q
    exact E.at_ j e q
theorem s_frz {i : Nat} {ss : List Stmt} {b : DenS} (h : DSs X ss b) : DSs X ss (sFrz i b) :=
  PSs.wk h fun D σ H ⟨W, st, env, fl, env', st', E, S, e, k⟩ => by
    unfold sFrz at e
    split at e
    · rename_i n hi
      split at e
      · rename_i d s1 hf
        obtain ⟨v, hv, r⟩ := E.at_ _ _ hi
        obtain ⟨x, S1, r1⟩ := frz_at S r hf
        exact ⟨W.del n, s1, _, fl, env', st', (E.mono x).put hv r1, S1, e, k.mono x⟩
      · cases e
    · cases e
end
end Pv
namespace Pv
open PySem PySem.Spec PyProof.Rows L2

/-! ### sources: a list or a tuple that stands still -/
def Src (K : PySem.W.Frag) (t : Bool) (H : Hp) (a : Addr) (xs : List V) : Prop := if t = true then SqT K H a xs else SqL K H a xs
def SrcIt (t : Bool) (h : Heap) (it a : Addr) (i : Nat) : Prop := if t = true then h.IsTupleIter it a i else h.IsListIter it a i
def SrcOb (t : Bool) (h : Heap) (a : Addr) (its : Array Value) : Prop := if t = true then h.IsTuple a its else h.IsList a its
def srcObj (t : Bool) (a : Addr) : Obj := if t = true then { cls := .type "tuple_iterator", data := .fields #[.ref a, .int 0 0] } else { cls := .type "list_iterator", data := .fields #[.ref a, .int 0 0] }
theorem src_begins (t : Bool) (a : Addr) (its : Array Value) : Begins (.ref a) (srcObj t a) fun h => SrcOb t h a its := by
  cases t
  · exact begins_list a its
  · exact begins_tuple a its
theorem src_draws {prog : Program} {w : World} {A : Around} (t : Bool) (hh : A.handled = none) (it a : Addr) (hne : a ≠ it) (its : Array Value) :
    Draws prog w A it [it, a] its.size (fun i v => its[i]? = some v) (fun i h => SrcIt t h it a i ∧ SrcOb t h a its) := by
  cases t
  · exact Draws.list hh it a hne its
  · exact Draws.tuple hh it a hne its
theorem src_at0 {t : Bool} {h : Heap} {it a : Addr} (e : h.get? it = some (srcObj t a)) : SrcIt t h it a 0 := by
  cases t
  · exact ⟨_, e, rfl, rfl⟩
  · exact ⟨_, e, rfl, rfl⟩
theorem src_keep {t : Bool} {h h' : Heap} {it a : Addr} {i : Nat} (s : SrcIt t h it a i) (k : ∀ o, h.get? it = some o → h'.get? it = some o) : SrcIt t h' it a i := by
  cases t
  · exact Heap.IsListIter.at s k
  · exact Heap.IsTupleIter.at s k
theorem src_obj {t : Bool} {h : Heap} {it a : Addr} {i : Nat} (s : SrcIt t h it a i) : ∃ o, h.get? it = some o ∧ ∀ v, o.data ≠ .cell v := by
  cases t
  · obtain ⟨o, e, _, d⟩ := s; exact ⟨o, e, fun v z => by rw [d] at z; cases z⟩
  · obtain ⟨o, e, _, d⟩ := s; exact ⟨o, e, fun v z => by rw [d] at z; cases z⟩
section
variable {X : Cx} {pins : List (Addr × Obj)} {σ : L2.St} {H : Hp} {s : Shared} {a : Addr} {xs ys : List V} {t : Bool}
theorem src_get (I : Inv X pins σ H s) (h : Src X.K t H a xs) : ∃ its : List Value, Vals xs its ∧ SrcOb t s.heap a its.toArray := by
  cases t
  · obtain ⟨its, r, p, _⟩ := I.list h; exact ⟨its, r, p.isList⟩
  · obtain ⟨its, r, p, _⟩ := I.tuple h; exact ⟨its, r, p⟩
theorem src_lt {t : Bool} {h : Heap} {a : Addr} {its : Array Value} (s : SrcOb t h a its) : a < h.objs.size := by
  cases t
  · obtain ⟨o, e, _⟩ := s; exact Heap.lt_size e
  · obtain ⟨o, e, _⟩ := s; exact Heap.lt_size e
end

/-! ### enumerate -/
theorem meets_enum1 {v : Value} {o : Obj} {H : Heap → Prop} (B : Begins v o H) :
    Meets (Builtin.«enumerate.__new__» ⟨[.type "enumerate", v], []⟩) (fun _ R s => H s.heap ∧
      R (.ok (.ret (.ref (s.heap.push o).objs.size))) { s with heap := (s.heap.push o).push { cls := .type "enumerate", data := .fields #[.none, .bool false, .ref s.heap.objs.size, rawInt 0, .none, .none] } }) :=
  .of_wp fun prog w A R s h => by
    obtain ⟨hp, g, d, tk, os⟩ := s; obtain ⟨h1, h⟩ := h
    have hsub := sub_enumerate
    have q1 : ∀ {A' : Around} {E : Value → Shared → Prop} {Q : Value → Shared → Prop}, Q (.ref hp.objs.size) ⟨hp.push o, g, d, tk, os⟩ → wpAny (model prog w) A' (pyIter v) Q E ⟨hp, g, d, tk, os⟩ :=
      fun q => B.iter prog w _ _ ⟨hp, g, d, tk, os⟩ _ h1 q
    wp_walk using q1
    refine wpAny_stack_any fun st => wpAny_pure ?_
    split
    · rename_i c _ _ _ _ _
      cases (c == Value.type "enumerate")
      · wp_walk using q1
        exact ⟨_, rfl, h⟩
      · wp_walk using q1
        exact ⟨_, rfl, h⟩
    · wp_walk using q1
      exact ⟨_, rfl, h⟩
section
variable {prog : Program} {w : World} {A : Around} {E : Value → Shared → Prop} {s : Shared}
theorem call_enum1 {v : Value} {o : Obj} {H : Heap → Prop} {Q : Value → Shared → Prop} (B : Begins v o H) (h1 : H s.heap)
    (h : ∀ h', IsEnum h' (s.heap.objs.size + 1) s.heap.objs.size 0 .none → h'.get? s.heap.objs.size = some o → h'.objs.size = s.heap.objs.size + 2 →
      (∀ b o, s.heap.get? b = some o → h'.get? b = some o) → Q (.ref (s.heap.objs.size + 1)) { s with heap := h' }) :
    wpAny (model prog w) A (call (.type "enumerate") [v]) Q E s := by
  refine callType_new F.called_enumerate (by decide) (F.typeCall_enumerate_1 _) (F.newCall_enumerate_1 _) (fun obj => F.args_object_init_2 obj _) F.entry_enumerate_new
    (meets_enum1 B) ⟨h1, ?_⟩
  have hz : (s.heap.push o).objs.size = s.heap.objs.size + 1 := Heap.size_push ..
  show _ ∧ _
  rw [hz]
  have he : IsEnum ((s.heap.push o).push { cls := .type "enumerate", data := .fields #[.none, .bool false, .ref s.heap.objs.size, rawInt 0, .none, .none] }) (s.heap.objs.size + 1) s.heap.objs.size 0 .none := by
    have := Heap.get?_push_size (s.heap.push o) (o := { cls := .type "enumerate", data := .fields #[.none, .bool false, .ref s.heap.objs.size, rawInt 0, .none, .none] }) rfl
    rw [hz] at this; exact this
  refine ⟨⟨_, he, rfl⟩, h _ he (Heap.get?_push_of_some _ (Heap.get?_push_size _ B.free)) (by rw [Heap.size_push, hz]) fun b o x => Heap.get?_push_of_some _ (Heap.get?_push_of_some _ x)⟩
end
/-- a source that stands, each item in a new pair with its number -/
def Jenum (K : PySem.W.Frag) (t : Bool) (a : Addr) (xs : List V) : It :=
  ⟨fun i H => Src K t H a xs ∧ i < xs.length, fun i H v H' => ∃ T x, v = .ref T ∧ H T = none ∧ H' = upd H T (.tup [.int (i : Nat), x]) ∧ xs[i]? = some x, fun i H => Src K t H a xs ∧ i = xs.length⟩
theorem src_ne {t : Bool} {h : Heap} {it a : Addr} {i : Nat} {its : Array Value} (s : SrcIt t h it a i) (q : SrcOb t h a its) : a ≠ it := by
  rintro rfl
  cases t
  · obtain ⟨o, e, c, d⟩ := s
    obtain ⟨o', e', c', _⟩ := q
    rw [e] at e'; cases e'
    rw [c] at c'; injection c' with c'; exact absurd c' (by decide)
  · obtain ⟨o, e, c, d⟩ := s
    obtain ⟨o', e', c', _⟩ := q
    rw [e] at e'; cases e'
    rw [c] at c'; injection c' with c'; exact absurd c' (by decide)
theorem turn_enumX {P : Program} {w : World} {K : PySem.W.Frag} {elts : List Expr} {kk : Nat} {tpos : Pos} (t : Bool) (a e it : Addr) (xs : List V) :
    Turn P w K (.Tuple elts kk tpos) (Jenum K t a xs) [e, it] e (fun i h => (∃ old, IsEnum h e it ((i : Nat) : Int) old) ∧ SrcIt t h it a i ∧ e ≠ it) where
  mem := by simp
  obj := fun i h st b hb => by
    obtain ⟨⟨old, he⟩, hi, _⟩ := st
    have e' : b = e ∨ b = it := by simpa using hb
    rcases e' with z | z
    · rw [z]; exact ⟨_, he, fun v q => nomatch q⟩
    · rw [z]; exact src_obj hi
  keep := fun i h h' st k => let ⟨⟨old, he⟩, hi, hne⟩ := st; ⟨⟨old, k e (by simp) _ he⟩, src_keep hi fun o q => k it (by simp) o q, hne⟩
  item := by
    intro X hP hw hK hc i pins s σ H E I hf st hg
    subst hP hw hK
    obtain ⟨⟨old, he⟩, hit, hne⟩ := st
    obtain ⟨hq, hlt⟩ := hg
    obtain ⟨its, rv, ob⟩ := src_get I hq
    have hl := rv.length
    have hae : a ≠ e := by
      rintro rfl
      cases t
      · obtain ⟨o', e', c', _⟩ := ob
        rw [show s.heap.get? a = _ from he] at e'; cases e'
        injection c' with c'; exact absurd c' (by decide)
      · obtain ⟨o', e', c', _⟩ := ob
        rw [show s.heap.get? a = _ from he] at e'; cases e'
        injection c' with c'; exact absurd c' (by decide)
    have G := GoesN.enumFrom (elts := elts) (x1 := kk) (pos := tpos) 0 (src_draws (prog := X.prog) (w := X.w) (A := X.A.in1) t (I.ok.hd hc) it a (src_ne hit ob) its.toArray) e hne (by simp; exact ⟨hne, Ne.symm hae⟩) (by simp)
    have hel : e < s.heap.objs.size := Heap.lt_size he
    have hil : it < s.heap.objs.size := let ⟨_, q, _⟩ := src_obj hit; Heap.lt_size q
    refine wpAny_mono (G.goes i s (fun u s2 => ∃ x H', Inv X pins σ H' s2 ∧ RelV x u ∧ (Jenum X.K t a xs).yld i H x H' ∧ ((∃ old, IsEnum s2.heap e it ((i + 1 : Nat) : Int) old) ∧ SrcIt t s2.heap it a (i + 1) ∧ e ≠ it) ∧ ∀ b ∈ [e, it], H' b = none) E (by simp; omega) ⟨⟨old, by rw [Int.zero_add]; exact he⟩, hit, ob⟩ fun v h' tk hy hst hk htk => ?_) (fun r s1 q => q) fun _ _ z => z
    obtain ⟨T, tt, x, rfl, hT, hx, o, hTo, hTc, n, hTd⟩ := hy
    obtain ⟨⟨old', he'⟩, hit', _⟩ := hst
    have hxi : xs[i]? = some xs[i] := List.getElem?_eq_getElem hlt
    obtain ⟨u, hu, ru⟩ := rv.get hxi
    have hu' : its.toArray[i]? = some u := by simpa using hu
    rw [hx] at hu'; cases hu'
    have new : ObjOk X.prog X.w (upd H T (.tup [.int (i : Nat), xs[i]])) h' T (.tup [.int (i : Nat), xs[i]]) :=
      ⟨by show 2 ≤ sizeLine; decide, [.int (0 + (i : Int)) tt, x], .cons ⟨tt, by rw [Int.zero_add]⟩ (.cons ru .nil), ⟨o, hTo, hTc, n, hTd⟩⟩
    have I1 : Inv X pins σ (upd H T (.tup [.int (i : Nat), xs[i]])) { s with heap := h', toks := tk } :=
      I.turnedNew (ch := [e, it]) (fun b ob hb q => hk b ob (by simpa using hb) q) hf hT new
    refine ⟨.ref T, _, I1, rfl, ⟨T, xs[i], rfl, I.hok.fresh hT, rfl, hxi⟩, ⟨⟨old', by rw [Int.zero_add] at he'; exact he'⟩, hit', hne⟩, fun b hb => ?_⟩
    have hb' : b < s.heap.objs.size := by
      have e' : b = e ∨ b = it := by simpa using hb
      rcases e' with z | z
      · rw [z]; exact hel
      · rw [z]; exact hil
    rw [upd_ne (Nat.ne_of_lt (Nat.lt_of_lt_of_le hb' hT))]
    exact (hf b hb).1
  done := by
    intro X hP hw hK hc i pins s σ H E I hf st hg
    subst hP hw hK
    obtain ⟨⟨old, he⟩, hit, hne⟩ := st
    obtain ⟨hq, rfl⟩ := hg
    obtain ⟨its, rv, ob⟩ := src_get I hq
    have hl := rv.length
    have hae : a ≠ e := by
      rintro rfl
      cases t
      · obtain ⟨o', e', c', _⟩ := ob
        rw [show s.heap.get? a = _ from he] at e'; cases e'
        injection c' with c'; exact absurd c' (by decide)
      · obtain ⟨o', e', c', _⟩ := ob
        rw [show s.heap.get? a = _ from he] at e'; cases e'
        injection c' with c'; exact absurd c' (by decide)
    have G := GoesN.enumFrom (elts := elts) (x1 := kk) (pos := tpos) 0 (src_draws (prog := X.prog) (w := X.w) (A := X.A.in1) t (I.ok.hd hc) it a (src_ne hit ob) its.toArray) e hne (by simp; exact ⟨hne, Ne.symm hae⟩) (by simp)
    exact G.stops s (fun s1 => Inv X pins σ H s1) E (by rw [Int.zero_add, List.size_toArray, ← hl]; exact ⟨⟨old, he⟩, hit, by rw [hl, ← List.size_toArray] at hit; exact ob⟩) fun h' tk hk htk =>
      I.turnedL (ch := [e, it]) (fun b o hb q => hk b o (by simpa using hb) q) hf
  self := fun A i s Q E st h => let ⟨⟨_, he⟩, _⟩ := st; wpAny_pyIter_enum he h
def iEnumX (K : PySem.W.Frag) (ta : TA) : TI := fun σ H R => ta σ H fun vs H1 => ∃ t a xs, vs = [.ref a] ∧ Src K t H1 a xs ∧ R (Jenum K t a xs) H1
theorem pi_enumX {X : Cx} {e : Expr} {ta : TA} {p pos tpos : Pos} {elts : List Expr} {kk : Nat} (hg : Gl X "enumerate") (hm : X.mg "enumerate" = none) (ha : PA X [e] ta) (hs : starEach [e] X.env = [(false, eval e X.env)] := by rfl) :
    PI X (.Tuple elts kk tpos) (.Call (.Name "enumerate" p) [e] [] pos) (iEnumX X.K ta) := by
  refine ⟨fun pins s σ H R I h => ?_⟩
  refine Call_ (ld_blt I hg hm boot_enumerate (PyProof.Rows.callWith_type1 (thn (ha.run pos pins s σ H _ I h) fun us s1 ⟨vs, H1, I1, r1, q1⟩ => ?_) hs rfl))
  obtain ⟨t, a, xs, ex, hq, q⟩ := q1
  subst ex
  cases r1 with
  | cons r rr =>
    cases rr
    cases r
    obtain ⟨its, rv, ob⟩ := src_get I1 hq
    refine call_enum1 (src_begins t a its.toArray) ob fun h' he hit hsz hk => wpAny_pyIter_enum he ?_
    have I2 : Inv X pins σ H1 { s1 with heap := h' } := I1.kept (t' := s1.toks) hk
    refine ⟨s1.heap.objs.size + 1, [s1.heap.objs.size + 1, s1.heap.objs.size], _, _, H1, rfl, I2, turn_enumX t a (s1.heap.objs.size + 1) s1.heap.objs.size xs, ⟨⟨.none, he⟩, src_at0 hit, Nat.succ_ne_self _⟩, fun b hb => ?_, q⟩
    have e' : b = s1.heap.objs.size + 1 ∨ b = s1.heap.objs.size := by simpa using hb
    have hle : s1.heap.objs.size ≤ b := by
      rcases e' with z | z
      · rw [z]; exact Nat.le_add_right _ _
      · rw [z]; exact Nat.le_refl _
    exact I1.fpOk hle (I1.hok.fresh hle)

/-! ### zip of two -/
def Jzip (K : PySem.W.Frag) (t u : Bool) (a b : Addr) (xs ys : List V) : It :=
  ⟨fun i H => Src K t H a xs ∧ Src K u H b ys ∧ i < min xs.length ys.length, fun i H v H' => ∃ T x y, v = .ref T ∧ H T = none ∧ H' = upd H T (.tup [x, y]) ∧ xs[i]? = some x ∧ ys[i]? = some y, fun i H => Src K t H a xs ∧ Src K u H b ys ∧ i = min xs.length ys.length⟩
structure ZipAp (z TI TO i1 i2 a b : Addr) : Prop where
  TIz : TI ≠ z
  TOz : TO ≠ z
  TITO : TI ≠ TO
  TIi1 : TI ≠ i1
  TIi2 : TI ≠ i2
  i1z : i1 ≠ z
  i2z : i2 ≠ z
  i1TO : i1 ≠ TO
  i2TO : i2 ≠ TO
  i12 : i1 ≠ i2
  az : a ≠ z
  bz : b ≠ z
  aTO : a ≠ TO
  bTO : b ≠ TO
  ai2 : a ≠ i2
  bi1 : b ≠ i1
theorem ZipAp.sep {z TI TO i1 i2 a b : Addr} (D : ZipAp z TI TO i1 i2 a b) : ZipSep2 z TI TO i1 i2 [i1, a] [i2, b] where
  TIz := D.TIz
  TOz := D.TOz
  TITO := D.TITO
  TIi1 := D.TIi1
  mem1 := by simp
  zf1 := by simp; exact ⟨Ne.symm D.i1z, Ne.symm D.az⟩
  Tf1 := by simp; exact ⟨Ne.symm D.i1TO, Ne.symm D.aTO⟩
  TIi2 := D.TIi2
  mem2 := by simp
  zf2 := by simp; exact ⟨Ne.symm D.i2z, Ne.symm D.bz⟩
  Tf2 := by simp; exact ⟨Ne.symm D.i2TO, Ne.symm D.bTO⟩
  sep1_2 := by simp; exact ⟨D.i12, Ne.symm D.bi1⟩
  sep2_1 := by simp; exact ⟨Ne.symm D.i12, Ne.symm D.ai2⟩
end Pv
namespace Pv
open PySem PySem.Spec PyProof.Rows L2
/-- the state of a zip of two -/
def ZipTn (t u : Bool) (z TI TO i1 i2 a b : Addr) (i : Nat) (h : Heap) : Prop := IsZip h z TI TO .none ∧ IsTupOf2 h TI (.ref i1) (.ref i2) ∧ (∃ x y, IsTupOf2 h TO x y) ∧ SrcIt t h i1 a i ∧ SrcIt u h i2 b i
theorem turn_zipX {P : Program} {w : World} {K : PySem.W.Frag} {elts : List Expr} {kk : Nat} {tpos : Pos} {t u : Bool} {a b z TI TO i1 i2 : Addr} (xs ys : List V) (D : ZipAp z TI TO i1 i2 a b) :
    Turn P w K (.Tuple elts kk tpos) (Jzip K t u a b xs ys) [z, TI, TO, i1, i2] z (ZipTn t u z TI TO i1 i2 a b) where
  mem := by simp
  obj := fun i h st c hc => by
    obtain ⟨hz, hTI, ⟨x, y, hTO⟩, h1, h2⟩ := st
    have e' : c = z ∨ c = TI ∨ c = TO ∨ c = i1 ∨ c = i2 := by simpa using hc
    rcases e' with q | q | q | q | q
    · rw [q]; exact ⟨_, hz, fun v q => nomatch q⟩
    · rw [q]; exact ⟨_, hTI, fun v q => nomatch q⟩
    · rw [q]; exact ⟨_, hTO, fun v q => nomatch q⟩
    · rw [q]; exact src_obj h1
    · rw [q]; exact src_obj h2
  keep := fun i h h' st k => by
    obtain ⟨hz, hTI, ⟨x, y, hTO⟩, h1, h2⟩ := st
    exact ⟨k z (by simp) _ hz, k TI (by simp) _ hTI, ⟨x, y, k TO (by simp) _ hTO⟩, src_keep h1 fun o q => k i1 (by simp) o q, src_keep h2 fun o q => k i2 (by simp) o q⟩
  item := by
    intro X hP hw hK hc i pins s σ H E I hf st hg
    subst hP hw hK
    obtain ⟨hz, hTI, hTO, h1, h2⟩ := st
    obtain ⟨hqx, hqy, hlt⟩ := hg
    obtain ⟨its, rv, ob⟩ := src_get I hqx
    obtain ⟨its2, rv2, ob2⟩ := src_get I hqy
    have hl := rv.length
    have hl2 := rv2.length
    have lx : i < xs.length := Nat.lt_of_lt_of_le hlt (Nat.min_le_left _ _)
    have ly : i < ys.length := Nat.lt_of_lt_of_le hlt (Nat.min_le_right _ _)
    have G := GoesN.zip2 (elts := elts) (x1 := kk) (pos := tpos) D.sep (src_draws (prog := X.prog) (w := X.w) (A := X.A.in1) t (I.ok.hd hc) i1 a (src_ne h1 ob) its.toArray) (src_draws (prog := X.prog) (w := X.w) (A := X.A.in1) u (I.ok.hd hc) i2 b (src_ne h2 ob2) its2.toArray)
    have inb : ∀ c ∈ [z, TI, TO, i1, i2], c < s.heap.objs.size := fun c hcm => by
      obtain ⟨x, y, hTO⟩ := hTO
      have e' : c = z ∨ c = TI ∨ c = TO ∨ c = i1 ∨ c = i2 := by simpa using hcm
      rcases e' with q | q | q | q | q
      · rw [q]; exact Heap.lt_size hz
      · rw [q]; exact Heap.lt_size hTI
      · rw [q]; exact Heap.lt_size hTO
      · rw [q]; exact let ⟨_, e, _⟩ := src_obj h1; Heap.lt_size e
      · rw [q]; exact let ⟨_, e, _⟩ := src_obj h2; Heap.lt_size e
    refine wpAny_mono (G.goes i s (fun v s2 => ∃ x H', Inv X pins σ H' s2 ∧ RelV x v ∧ (Jzip X.K t u a b xs ys).yld i H x H' ∧ ZipTn t u z TI TO i1 i2 a b (i + 1) s2.heap ∧ ∀ c ∈ [z, TI, TO, i1, i2], H' c = none) E (by simp only [List.size_toArray]; omega) ⟨hz, hTI, hTO, ⟨h1, ob⟩, ⟨h2, ob2⟩⟩ fun v h' tk hy hst hk htk => ?_) (fun r s1 q => q) fun _ _ z => z
    obtain ⟨T, x, y, rfl, hT, hx, hy, o, hTo, hTc, n, hTd⟩ := hy
    obtain ⟨hz', hTI', hTO', ⟨h1', _⟩, ⟨h2', _⟩⟩ := hst
    have hxi : xs[i]? = some xs[i] := List.getElem?_eq_getElem lx
    have hyi : ys[i]? = some ys[i] := List.getElem?_eq_getElem ly
    obtain ⟨p, hp, rp⟩ := rv.get hxi
    obtain ⟨q, hq, rq⟩ := rv2.get hyi
    have hp' : its.toArray[i]? = some p := by simpa using hp
    have hq' : its2.toArray[i]? = some q := by simpa using hq
    rw [hx] at hp'; cases hp'
    rw [hy] at hq'; cases hq'
    have new : ObjOk X.prog X.w (upd H T (.tup [xs[i], ys[i]])) h' T (.tup [xs[i], ys[i]]) :=
      ⟨by show 2 ≤ sizeLine; decide, [x, y], .cons rp (.cons rq .nil), ⟨o, hTo, hTc, n, hTd⟩⟩
    have I1 : Inv X pins σ (upd H T (.tup [xs[i], ys[i]])) { s with heap := h', toks := tk } :=
      I.turnedNew (ch := [z, TI, TO, i1, i2]) (fun c ob hb q => hk c ob (fun hm => hb (by simp at hm ⊢; rcases hm with e | e | e | e <;> simp [e])) q) hf hT new
    refine ⟨.ref T, _, I1, rfl, ⟨T, xs[i], ys[i], rfl, I.hok.fresh hT, rfl, hxi, hyi⟩, ⟨hz', hTI', hTO', h1', h2'⟩, fun c hcm => ?_⟩
    rw [upd_ne (Nat.ne_of_lt (Nat.lt_of_lt_of_le (inb c hcm) hT))]
    exact (hf c hcm).1
  done := by
    intro X hP hw hK hc i pins s σ H E I hf st hg
    subst hP hw hK
    obtain ⟨hz, hTI, hTO, h1, h2⟩ := st
    obtain ⟨hqx, hqy, rfl⟩ := hg
    obtain ⟨its, rv, ob⟩ := src_get I hqx
    obtain ⟨its2, rv2, ob2⟩ := src_get I hqy
    have hl := rv.length
    have hl2 := rv2.length
    have G := GoesN.zip2 (elts := elts) (x1 := kk) (pos := tpos) D.sep (src_draws (prog := X.prog) (w := X.w) (A := X.A.in1) t (I.ok.hd hc) i1 a (src_ne h1 ob) its.toArray) (src_draws (prog := X.prog) (w := X.w) (A := X.A.in1) u (I.ok.hd hc) i2 b (src_ne h2 ob2) its2.toArray)
    have en : min xs.length ys.length = min its.toArray.size its2.toArray.size := by rw [List.size_toArray, List.size_toArray, hl, hl2]
    exact G.stops s (fun s1 => Inv X pins σ H s1) E (by rw [← en]; exact ⟨hz, hTI, hTO, ⟨h1, ob⟩, ⟨h2, ob2⟩⟩) fun h' tk hk htk =>
      I.turnedL (ch := [z, TI, TO, i1, i2]) (fun c o hb q => hk c o (fun hm => hb (by simp at hm ⊢; rcases hm with e | e | e | e <;> simp [e])) q) hf
  self := fun A i s Q E st h => wpAny_pyIter_zip st.1 h
def iZipX (K : PySem.W.Frag) (ta : TA) : TI := fun σ H R => ta σ H fun vs H1 => ∃ t u a b xs ys, vs = [.ref a, .ref b] ∧ Src K t H1 a xs ∧ Src K u H1 b ys ∧ R (Jzip K t u a b xs ys) H1
theorem zip_ap (n a b : Nat) (ha : a < n) (hb : b < n) : ZipAp (n + 4) (n + 2) (n + 3) n (n + 1) a b where
  TIz := show (n + 2 : Nat) ≠ n + 4 by omega
  TOz := show (n + 3 : Nat) ≠ n + 4 by omega
  TITO := show (n + 2 : Nat) ≠ n + 3 by omega
  TIi1 := show (n + 2 : Nat) ≠ n by omega
  TIi2 := show (n + 2 : Nat) ≠ n + 1 by omega
  i1z := show (n : Nat) ≠ n + 4 by omega
  i2z := show (n + 1 : Nat) ≠ n + 4 by omega
  i1TO := show (n : Nat) ≠ n + 3 by omega
  i2TO := show (n + 1 : Nat) ≠ n + 3 by omega
  i12 := show (n : Nat) ≠ n + 1 by omega
  az := show (a : Nat) ≠ n + 4 by omega
  bz := show (b : Nat) ≠ n + 4 by omega
  aTO := show (a : Nat) ≠ n + 3 by omega
  bTO := show (b : Nat) ≠ n + 3 by omega
  ai2 := show (a : Nat) ≠ n + 1 by omega
  bi1 := show (b : Nat) ≠ n by omega
theorem pi_zipX {X : Cx} {e e2 : Expr} {ta : TA} {p pos tpos : Pos} {elts : List Expr} {kk : Nat} (hg : Gl X "zip") (hm : X.mg "zip" = none) (ha : PA X [e, e2] ta)
    (hs : starEach [e, e2] X.env = (false, eval e X.env) :: starEach [e2] X.env := by rfl) (hpl : (backTo pos (starEach [e2] X.env)).any (·.1) = false := by rfl) :
    PI X (.Tuple elts kk tpos) (.Call (.Name "zip" p) [e, e2] [] pos) (iZipX X.K ta) := by
  refine ⟨fun pins s σ H R I h => ?_⟩
  refine Call_ (ld_blt I hg hm PyProof.Rows.boot_zip (PyProof.Rows.callWith_type1 (thn (ha.run pos pins s σ H _ I h) fun us s1 ⟨vs, H1, I1, r1, q1⟩ => ?_) hs hpl))
  obtain ⟨t, u, a, b, xs, ys, ex, hqx, hqy, q⟩ := q1
  subst ex
  cases r1 with
  | cons r rr =>
    cases rr with
    | cons r' rr =>
      cases rr
      cases r
      cases r'
      obtain ⟨its, rv, ob⟩ := src_get I1 hqx
      obtain ⟨its2, rv2, ob2⟩ := src_get I1 hqy
      refine zip_begins2 (src_begins t a its.toArray) (src_begins u b its2.toArray) ob ob2 fun h' hz hTI hTO h1 h2 hsz hk => wpAny_pyIter_zip hz ?_
      have I2 : Inv X pins σ H1 { s1 with heap := h' } := I1.kept (t' := s1.toks) hk
      refine ⟨s1.heap.objs.size + 4, [s1.heap.objs.size + 4, s1.heap.objs.size + 2, s1.heap.objs.size + 3, s1.heap.objs.size, s1.heap.objs.size + 1], _, _, H1, rfl, I2, turn_zipX xs ys (zip_ap s1.heap.objs.size a b (src_lt ob) (src_lt ob2)), ⟨hz, hTI, ⟨_, _, hTO⟩, src_at0 h1, src_at0 h2⟩, fun c hcm => ?_, q⟩
      have e' : c = s1.heap.objs.size + 4 ∨ c = s1.heap.objs.size + 2 ∨ c = s1.heap.objs.size + 3 ∨ c = s1.heap.objs.size ∨ c = s1.heap.objs.size + 1 := by simpa using hcm
      have hle : s1.heap.objs.size ≤ c := by
        rcases e' with z | z | z | z | z
        · rw [z]; exact Nat.le_add_right _ _
        · rw [z]; exact Nat.le_add_right _ _
        · rw [z]; exact Nat.le_add_right _ _
        · rw [z]; exact Nat.le_refl _
        · rw [z]; exact Nat.le_add_right _ _
      exact I1.fpOk hle (I1.hok.fresh hle)
end Pv
namespace Pv
open PySem PySem.Spec PyProof.Rows L2

/-- an iterator that gives what stands for ds, from this heap on -/
structure JR (K : PySem.W.Frag) (w : World) (J : It) (ds : List D) (H : Hp) (W : Wd) : Prop where
  go : ∀ (i : Nat) H2 W2, RM H W H2 W2 → i < ds.length → J.go i H2
  stop : ∀ H2 W2, RM H W H2 W2 → J.stop ds.length H2
  yld : ∀ (i : Nat) (d : D) H2 W2 x H3 (st2 : Sto), RM H W H2 W2 → StoR K w H2 W2 st2 → ds[i]? = some d → J.yld i H2 x H3 → HExt H2 W2 H3 W2 ∧ StoR K w H3 W2 st2 ∧ Rep K w H3 W2 d x
section
variable (K : PySem.W.Frag) (w : World)
def tI (f : DenI) : TI := fun σ H R => ∃ W st env ds st', EnvR K w H W σ env ∧ StoR K w H W st ∧ f env st = some (ds, st') ∧ ∀ H' W' J, HExt H W H' W' → StoR K w H' W' st' → JR K w J ds H' W' → R J H'
end
abbrev DI (X : Cx) (tg it : Expr) (f : DenI) : Prop := PI X tg it (tI X.K X.w f)
section
variable {K : PySem.W.Frag} {w : World} {H H' H1 H2 : Hp} {W W' W1 W2 : Wd} {st st' : Sto} {X : Cx}
theorem PI.wk {tg e : Expr} {t t' : TI} (h : PI X tg e t) (k : ∀ σ H Q, t' σ H Q → t σ H Q) : PI X tg e t' := ⟨fun pins s σ H Q I q => h.run pins s σ H Q I (k σ H Q q)⟩
theorem PI.or {tg e : Expr} {t t' : TI} (h : PI X tg e t) (h' : PI X tg e t') : PI X tg e (fun σ H Q => t σ H Q ∨ t' σ H Q) := ⟨fun pins s σ H Q I q => q.elim (h.run pins s σ H Q I) (h'.run pins s σ H Q I)⟩

/-! ### a list, a tuple -/
def seqD : D → Option (List D)
  | .lst ds => some ds
  | .tup ds => some ds
  | _ => none
def iSeq (a : Den) : DenI := fun env st => (a env st).bind fun p => (seqD p.1).bind fun ds => some (ds, p.2)
/-- where a sequence by value stands -/
theorem src_of {d : D} {v : V} {ds : List D} (r : Rep K w H W d v) (e : seqD d = some ds) : ∃ t a vs, v = .ref a ∧ RepL K w H W ds vs ∧ ∀ H2 W2, RM H W H2 W2 → Src K t H2 a vs := by
  cases d with
  | lst es =>
    cases e
    cases r with
    | lst n h l => exact ⟨false, _, _, rfl, l, fun H2 W2 x => .of (x.pr _ _ h n).1⟩
  | tup es =>
    cases e
    cases r with
    | tup n h l => exact ⟨true, _, _, rfl, l, fun H2 W2 x => .of (x.pr _ _ h n).1⟩
    | tupK h l => exact ⟨true, _, _, rfl, l, fun H2 W2 x => h H2⟩
  | _ => cases e
theorem jr_lst {a : Addr} {ds : List D} {vs : List V} (l : RepL K w H W ds vs) (h : ∀ H2 W2, RM H W H2 W2 → SqL K H2 a vs) : JR K w (Itl K a) ds H W where
  go := fun i H2 W2 x hi => ⟨vs, vs[i]'(by rw [← l.length]; exact hi), h H2 W2 x, by simp⟩
  stop := fun H2 W2 x => ⟨vs, h H2 W2 x, by rw [l.length]; exact Nat.le_refl _⟩
  yld := fun i d H2 W2 v H3 st2 x S hd y => by
    obtain ⟨e, y⟩ := y
    subst e
    obtain ⟨v', hv, r⟩ := l.get hd
    have hv' := y vs (h _ _ x)
    rw [hv] at hv'; cases hv'
    exact ⟨.refl _ _, S, Rep.rm x d _ r⟩
theorem jr_tup {a : Addr} {ds : List D} {vs : List V} (l : RepL K w H W ds vs) (h : ∀ H2 W2, RM H W H2 W2 → SqT K H2 a vs) : JR K w (Itt K a) ds H W where
  go := fun i H2 W2 x hi => ⟨vs, vs[i]'(by rw [← l.length]; exact hi), h H2 W2 x, by simp⟩
  stop := fun H2 W2 x => ⟨vs, h H2 W2 x, by rw [l.length]; exact Nat.le_refl _⟩
  yld := fun i d H2 W2 v H3 st2 x S hd y => by
    obtain ⟨e, y⟩ := y
    subst e
    obtain ⟨v', hv, r⟩ := l.get hd
    have hv' := y vs (h _ _ x)
    rw [hv] at hv'; cases hv'
    exact ⟨.refl _ _, S, Rep.rm x d _ r⟩
theorem i_seq {tg e : Expr} {a : Den} (h : DE X e a) : DI X tg e (iSeq a) :=
  PI.wk (PI.or (pi_list h) (pi_tup h)) fun σ H R ⟨W, st, env, ds, st', E, S, e, k⟩ => by
    obtain ⟨⟨d, s1⟩, h1, e⟩ := Option.bind_eq_some_iff.mp e
    obtain ⟨es, h2, e⟩ := Option.bind_eq_some_iff.mp e
    cases e
    cases d with
    | lst es =>
      cases h2
      refine .inl ⟨W, st, env, _, s1, E, S, h1, fun v H1 W1 x1 S1 r1 => ?_⟩
      obtain ⟨t, a, vs, rfl, l, hs⟩ := src_of r1 rfl
      cases r1 with
      | lst n hh l2 =>
        exact ⟨a, rfl, ⟨_, .of hh⟩, k H1 W1 _ x1 S1 (jr_lst l2 fun H2 W2 x => .of (x.pr _ _ hh n).1)⟩
    | tup es =>
      cases h2
      refine .inr ⟨W, st, env, _, s1, E, S, h1, fun v H1 W1 x1 S1 r1 => ?_⟩
      cases r1 with
      | tup n hh l => exact ⟨_, rfl, ⟨_, .of hh⟩, k H1 W1 _ x1 S1 (jr_tup l fun H2 W2 x => .of (x.pr _ _ hh n).1)⟩
      | tupK hh l => exact ⟨_, rfl, ⟨_, hh H1⟩, k H1 W1 _ x1 S1 (jr_tup l fun H2 W2 x => hh H2)⟩
    | _ => cases h2

/-! ### range -/
def rngD (lo : Int) (n : Nat) : List D := (List.range n).map fun i => .int (lo + (i : Nat))
theorem rngD_length (lo : Int) (n : Nat) : (rngD lo n).length = n := by unfold rngD; rw [List.length_map, List.length_range]
theorem jr_rng {lo : Int} {n : Nat} : JR K w (Itr lo n) (rngD lo n) H W where
  go := fun i H2 W2 x hi => by rw [rngD_length] at hi; exact hi
  stop := fun H2 W2 x => by rw [rngD_length]; exact Nat.le_refl _
  yld := fun i d H2 W2 v H3 st2 x S hd y => by
    obtain ⟨e, y⟩ := y
    subst e y
    unfold rngD at hd
    rw [List.getElem?_map] at hd
    obtain ⟨j, h1, rfl⟩ := Option.map_eq_some_iff.mp hd
    have hj : j = i := by
      obtain ⟨h2, h3⟩ := List.getElem?_eq_some_iff.mp h1
      simpa using h3.symm
    subst hj
    exact ⟨.refl _ _, S, .int _⟩
def iRange (as : List Den) : DenI := fun env st => (aAll as env st).bind fun p => match p.1 with
  | [.int j] => if -(2 ^ 62) ≤ j ∧ j < 2 ^ 62 then some (rngD 0 j.toNat, p.2) else none
  | [.int i, .int j] => if -(2 ^ 62) ≤ i ∧ i < 2 ^ 62 ∧ -(2 ^ 62) ≤ j ∧ j < 2 ^ 62 then some (rngD i (j - i).toNat, p.2) else none
  | _ => none
theorem i_range1 {tg a : Expr} {as : List Den} {p pos : Pos} (hg : Gl X "range") (hm : X.mg "range" = none) (ha : DA X [a] as) (hl : as.length = 1 := by rfl) (hs : starEach [a] X.env = [(false, eval a X.env)] := by rfl) : DI X tg (.Call (.Name "range" p) [a] [] pos) (iRange as) :=
  PI.wk (pi_range1 hg hm ha hs) fun σ H R ⟨W, st, env, ds, st', E, S, e, k⟩ => by
    obtain ⟨⟨es, s1⟩, h1, e⟩ := Option.bind_eq_some_iff.mp e
    refine ⟨W, st, env, es, s1, E, S, h1, fun vs H1 W1 x1 S1 r1 => ?_⟩
    dsimp only at e
    split at e
    · split at e
      · rename_i hb
        cases e
        cases r1 with
        | cons q1 q2 =>
          cases q2
          cases q1
          exact ⟨_, rfl, hb.1, hb.2, k H1 W1 _ x1 S1 jr_rng⟩
      · cases e
    · have q := aAll_length h1
      rw [hl] at q; cases q
    · cases e
theorem i_range2 {tg a b : Expr} {as : List Den} {p pos : Pos} (hg : Gl X "range") (hm : X.mg "range" = none) (ha : DA X [a, b] as) (hl : as.length = 2 := by rfl) (hs : starEach [a, b] X.env = [(false, eval a X.env), (false, eval b X.env)] := by rfl) (hs2 : starEach [b] X.env = [(false, eval b X.env)] := by rfl) : DI X tg (.Call (.Name "range" p) [a, b] [] pos) (iRange as) :=
  PI.wk (pi_range2 hg hm ha hs hs2) fun σ H R ⟨W, st, env, ds, st', E, S, e, k⟩ => by
    obtain ⟨⟨es, s1⟩, h1, e⟩ := Option.bind_eq_some_iff.mp e
    refine ⟨W, st, env, es, s1, E, S, h1, fun vs H1 W1 x1 S1 r1 => ?_⟩
    dsimp only at e
    split at e
    · have q := aAll_length h1
      rw [hl] at q; cases q
    · split at e
      · rename_i hb
        cases e
        cases r1 with
        | cons q1 q2 =>
          cases q2 with
          | cons q2 q3 =>
            cases q3
            cases q1
            cases q2
            exact ⟨_, _, rfl, hb, k H1 W1 _ x1 S1 jr_rng⟩
      · cases e
    · cases e

/-! ### enumerate, zip -/
def enumD (n : Nat) : List D → List D
  | [] => []
  | d :: ds => .tup [.int (n : Nat), d] :: enumD (n + 1) ds
theorem enumD_get : ∀ {ds : List D} {n i : Nat} {d : D}, (enumD n ds)[i]? = some d → ∃ e, ds[i]? = some e ∧ d = .tup [.int ((n + i : Nat) : Int), e]
  | [], _, _, _, h => by simp [enumD] at h
  | e :: ds, n, 0, d, h => by simp [enumD] at h; exact ⟨e, rfl, h.symm⟩
  | e :: ds, n, i + 1, d, h => by
    simp only [enumD, List.getElem?_cons_succ] at h
    obtain ⟨e', h1, h2⟩ := enumD_get h
    exact ⟨e', by simpa using h1, by rw [h2, show n + 1 + i = n + (i + 1) by omega]⟩
theorem enumD_length : ∀ (ds : List D) (n : Nat), (enumD n ds).length = ds.length
  | [], _ => rfl
  | _ :: ds, n => by simp [enumD, enumD_length ds]
theorem new_pair {x y : V} {T : Addr} {H : Hp} {W : Wd} {st : Sto} {d e : D} (hT : H T = none) (S : StoR K w H W st) (r1 : Rep K w H W d x) (r2 : Rep K w H W e y) : HExt H W (upd H T (.tup [x, y])) W ∧ StoR K w (upd H T (.tup [x, y])) W st ∧ Rep K w (upd H T (.tup [x, y])) W (.tup [d, e]) (.ref T) :=
  ⟨.upd hT, S.upd hT, .tup (S.npr hT) upd_same (.cons (Rep.mono (.upd hT) _ _ r1) (.cons (Rep.mono (.upd hT) _ _ r2) .nil))⟩
theorem jr_enum {t : Bool} {a : Addr} {ds : List D} {vs : List V} (l : RepL K w H W ds vs) (h : ∀ H2 W2, RM H W H2 W2 → Src K t H2 a vs) : JR K w (Jenum K t a vs) (enumD 0 ds) H W where
  go := fun i H2 W2 x hi => ⟨h H2 W2 x, by rw [enumD_length, l.length] at hi; exact hi⟩
  stop := fun H2 W2 x => ⟨h H2 W2 x, by rw [enumD_length, l.length]⟩
  yld := fun i d H2 W2 v H3 st2 x S hd y => by
    obtain ⟨T, u, rfl, hT, rfl, hu⟩ := y
    obtain ⟨e, h1, rfl⟩ := enumD_get hd
    obtain ⟨u', hu', r⟩ := l.get h1
    rw [hu] at hu'; cases hu'
    rw [Nat.zero_add]
    exact new_pair hT S (.int _) (Rep.rm x e _ r)
def iEnum (a : Den) : DenI := fun env st => (a env st).bind fun p => (seqD p.1).bind fun ds => some (enumD 0 ds, p.2)
theorem i_enum {e : Expr} {a : Den} {p pos tpos : Pos} {elts : List Expr} {kk : Nat} (hg : Gl X "enumerate") (hm : X.mg "enumerate" = none) (ha : DE X e a) (hs : starEach [e] X.env = (false, eval e X.env) :: starEach [] X.env := by rfl) (hs2 : starEach [e] X.env = [(false, eval e X.env)] := by rfl) : DI X (.Tuple elts kk tpos) (.Call (.Name "enumerate" p) [e] [] pos) (iEnum a) :=
  PI.wk (pi_enumX hg hm (pa_cons ha pa_nil hs) hs2) fun σ H R ⟨W, st, env, ds, st', E, S, e, k⟩ => by
    obtain ⟨⟨d, s1⟩, h1, e⟩ := Option.bind_eq_some_iff.mp e
    obtain ⟨es, h2, e⟩ := Option.bind_eq_some_iff.mp e
    cases e
    refine ⟨W, st, env, d, s1, E, S, h1, fun v H1 W1 x1 S1 r1 => ?_⟩
    obtain ⟨t, a, vs, rfl, l, hs⟩ := src_of r1 h2
    exact ⟨t, a, vs, rfl, hs H1 W1 (RM.refl _ _), k H1 W1 _ x1 S1 (jr_enum l hs)⟩
def zipD : List D → List D → List D
  | d :: ds, e :: es => .tup [d, e] :: zipD ds es
  | _, _ => []
theorem zipD_get : ∀ {ds es : List D} {i : Nat} {d : D}, (zipD ds es)[i]? = some d → ∃ a b, ds[i]? = some a ∧ es[i]? = some b ∧ d = .tup [a, b]
  | [], _, _, _, h => by simp [zipD] at h
  | _ :: _, [], _, _, h => by simp [zipD] at h
  | a :: ds, b :: es, 0, d, h => by simp [zipD] at h; exact ⟨a, b, rfl, rfl, h.symm⟩
  | a :: ds, b :: es, i + 1, d, h => by
    simp only [zipD, List.getElem?_cons_succ] at h
    obtain ⟨a', b', h1, h2, h3⟩ := zipD_get h
    exact ⟨a', b', by simpa using h1, by simpa using h2, h3⟩
theorem zipD_length : ∀ (ds es : List D), (zipD ds es).length = min ds.length es.length
  | [], _ => by simp [zipD]
  | _ :: _, [] => by simp [zipD]
  | _ :: ds, _ :: es => by simp only [zipD, List.length_cons, zipD_length ds es]; omega
theorem jr_zip {t u : Bool} {a b : Addr} {ds es : List D} {vs us : List V} (l : RepL K w H W ds vs) (m : RepL K w H W es us) (h : ∀ H2 W2, RM H W H2 W2 → Src K t H2 a vs) (h' : ∀ H2 W2, RM H W H2 W2 → Src K u H2 b us) : JR K w (Jzip K t u a b vs us) (zipD ds es) H W where
  go := fun i H2 W2 x hi => ⟨h H2 W2 x, h' H2 W2 x, by rw [zipD_length, l.length, m.length] at hi; exact hi⟩
  stop := fun H2 W2 x => ⟨h H2 W2 x, h' H2 W2 x, by rw [zipD_length, l.length, m.length]⟩
  yld := fun i d H2 W2 v H3 st2 x S hd y => by
    obtain ⟨T, p, q, rfl, hT, rfl, hp, hq⟩ := y
    obtain ⟨e, f, h1, h2, rfl⟩ := zipD_get hd
    obtain ⟨p', hp', r⟩ := l.get h1
    obtain ⟨q', hq', r'⟩ := m.get h2
    rw [hp] at hp'; cases hp'
    rw [hq] at hq'; cases hq'
    exact new_pair hT S (Rep.rm x e _ r) (Rep.rm x f _ r')
def iZip (a b : Den) : DenI := fun env st => (a env st).bind fun p => (b env p.2).bind fun q => (seqD p.1).bind fun ds => (seqD q.1).bind fun es => some (zipD ds es, q.2)
theorem i_zip {e e2 : Expr} {a b : Den} {p pos tpos : Pos} {elts : List Expr} {kk : Nat} (hg : Gl X "zip") (hm : X.mg "zip" = none) (ha : DE X e a) (hb : DE X e2 b) (hs : starEach [e, e2] X.env = (false, eval e X.env) :: starEach [e2] X.env := by rfl) (hs2 : starEach [e2] X.env = (false, eval e2 X.env) :: starEach [] X.env := by rfl)
    (hpl : (backTo pos (starEach [e2] X.env)).any (·.1) = false := by rfl) : DI X (.Tuple elts kk tpos) (.Call (.Name "zip" p) [e, e2] [] pos) (iZip a b) :=
  PI.wk (pi_zipX hg hm (pa_cons ha (pa_cons hb pa_nil hs2) hs) hs hpl) fun σ H R ⟨W, st, env, ds, st', E, S, e, k⟩ => by
    obtain ⟨⟨d, s1⟩, h1, e⟩ := Option.bind_eq_some_iff.mp e
    obtain ⟨⟨d2, s2⟩, h2, e⟩ := Option.bind_eq_some_iff.mp e
    obtain ⟨es, h3, e⟩ := Option.bind_eq_some_iff.mp e
    obtain ⟨fs, h4, e⟩ := Option.bind_eq_some_iff.mp e
    cases e
    refine ⟨W, st, env, d, s1, E, S, h1, fun v H1 W1 x1 S1 r1 => ?_⟩
    refine ⟨W1, s1, env, d2, s2, E.mono x1, S1, h2, fun u H2 W2 x2 S2 r2 => ?_⟩
    obtain ⟨t, a, vs, rfl, l, hs⟩ := src_of (Rep.mono x2 d v r1) h3
    obtain ⟨u', b, us, rfl, m, hs'⟩ := src_of r2 h4
    exact ⟨t, u', a, b, vs, us, rfl, hs H2 W2 (RM.refl _ _), hs' H2 W2 (RM.refl _ _), k H2 W2 _ (x1.trans x2) S2 (jr_zip l m hs hs')⟩

/-! ### for -/
def forD (g : DenG) (b : DenS) : List D → DenS
  | [], env, st => some (.nx, env, st)
  | d :: ds, env, st => (g d env st).bind fun p => (b p.1 p.2).bind fun q => match q.1 with
    | .nx => forD g b ds q.2.1 q.2.2
    | .ct => forD g b ds q.2.1 q.2.2
    | .bk => some (.nx, q.2.1, q.2.2)
    | .rt d => some (.rt d, q.2.1, q.2.2)
def sFor (it : DenI) (g : DenG) (b : DenS) : DenS := fun env st => (it env st).bind fun p => forD g b p.1 env p.2
theorem s_for {tg iter : Expr} {body : List Stmt} {f : DenI} {g : DenG} {b : DenS} {pos : Pos} (hp : PassesOwn (model X.prog X.w) X.A X.env X.xe) (hc : X.calm = true) (hi : DI X tg iter f) (hg : DG X tg g) (hb : DSs X body b)
    (hs : ∀ x, foldedSetIterable iter X.env x = pure x := by intro _; rfl) : DS X (.For tg iter body [] pos) (sFor f g b) :=
  PS.wk (ps_for hp hc hi hg hb hs) fun E σ H ⟨W, st, env, fl, env', st', R, S, e, k⟩ => by
    obtain ⟨⟨ds, s1⟩, h1, e⟩ := Option.bind_eq_some_iff.mp e
    refine ⟨W, st, env, ds, s1, R, S, h1, fun H1 W1 J x1 S1 j => ?_⟩
    have k1 := k.mono x1
    dsimp only at e
    refine ⟨fun i m σ H => m = ds.length - i ∧ i ≤ ds.length ∧ ∃ W2 st2 env2, HExt H1 W1 H W2 ∧ StoR X.K X.w H W2 st2 ∧ EnvR X.K X.w H W2 σ env2 ∧ forD g b (ds.drop i) env2 st2 = some (fl, env', st'),
      ⟨ds.length, by simp, Nat.zero_le _, W1, s1, env, .refl _ _, S1, R.mono x1, by simpa using e⟩, ?_⟩
    rintro i m σ2 H2 ⟨rfl, hi, W2, st2, env2, x2, S2, R2, e2⟩
    by_cases hlt : i < ds.length
    · refine .inr ⟨j.go i H2 W2 x2.rm hlt, ?_⟩
      rw [List.drop_eq_getElem_cons hlt] at e2
      unfold forD at e2
      obtain ⟨⟨env3, st3⟩, h3, e2⟩ := Option.bind_eq_some_iff.mp e2
      obtain ⟨⟨fl4, env4, st4⟩, h4, e2⟩ := Option.bind_eq_some_iff.mp e2
      dsimp only at e2
      refine ⟨fun σ' H' => ∃ W', HExt H1 W1 H' W' ∧ StoR X.K X.w H' W' st4 ∧ EnvR X.K X.w H' W' σ' env4 ∧ forD g b (ds.drop (i + 1)) env4 st4 = some (fl, env', st'),
        fun σ' H' ⟨W', x', S', R', e'⟩ => ⟨ds.length - (i + 1), by omega, rfl, hlt, W', st4, env4, x', S', R', e'⟩, fun v H3 y => ?_⟩
      obtain ⟨x3, S3, r3⟩ := j.yld i ds[i] H2 W2 v H3 st2 x2.rm S2 (List.getElem?_eq_getElem hlt) y
      refine ⟨W2, st2, env2, ds[i], env3, st3, R2.mono x3, S3, r3, h3, fun σ' H' W' x' S' R' => ?_⟩
      refine ⟨W', st3, env3, fl4, env4, st4, R', S', h4, fun σ'' H'' W'' x'' S'' R'' => ?_⟩
      have xx := ((x2.trans x3).trans x').trans x''
      cases fl4 with
      | nx => exact ⟨W'', xx, S'', R'', e2⟩
      | ct => exact ⟨W'', xx, S'', R'', e2⟩
      | bk => cases e2; exact k1 σ'' H'' W'' xx S'' R''
      | rt d => cases e2; exact k1 σ'' H'' W'' xx S'' R''
    · have q : i = ds.length := by omega
      subst q
      rw [List.drop_length] at e2
      cases e2
      exact .inl ⟨j.stop H2 W2 x2.rm, k1 σ2 H2 W2 x2 S2 R2⟩

/-! ### while -/
def whlD (t : DenT) (b : DenS) : Nat → DenS
  | 0, _, _ => none
  | n + 1, env, st => (t env st).bind fun p => match p.1 with
    | false => some (.nx, env, p.2)
    | true => (b env p.2).bind fun q => match q.1 with
      | .nx => whlD t b n q.2.1 q.2.2
      | .ct => whlD t b n q.2.1 q.2.2
      | .bk => some (.nx, q.2.1, q.2.2)
      | .rt d => some (.rt d, q.2.1, q.2.2)
def sWhl (n : Nat) (t : DenT) (b : DenS) : DenS := whlD t b n
theorem s_whl {n : Nat} {c : Expr} {body : List Stmt} {t : DenT} {b : DenS} {pos : Pos} (hp : PassesOwn (model X.prog X.w) X.A X.env X.xe) (hc : DT X c t) (hb : DSs X body b) : DS X (.While c body [] pos) (sWhl n t b) :=
  PS.wk (ps_while hp hc hb) fun E σ H ⟨W, st, env, fl, env', st', R, S, e, k⟩ => by
    refine ⟨fun m σ H2 => ∃ W2 st2 env2, HExt H W H2 W2 ∧ StoR X.K X.w H2 W2 st2 ∧ EnvR X.K X.w H2 W2 σ env2 ∧ whlD t b m env2 st2 = some (fl, env', st'), ⟨n, W, st, env, .refl _ _, S, R, e⟩, ?_⟩
    rintro m σ2 H2 ⟨W2, st2, env2, x2, S2, R2, e2⟩
    cases m with
    | zero => cases e2
    | succ m =>
      unfold whlD at e2
      obtain ⟨⟨c, st3⟩, h3, e2⟩ := Option.bind_eq_some_iff.mp e2
      refine ⟨W2, st2, env2, c, st3, R2, S2, h3, fun H3 W3 x3 S3 => ?_⟩
      dsimp only at e2
      cases c with
      | false => cases e2; exact iteF (k σ2 H3 W3 (x2.trans x3) S3 (R2.mono x3))
      | true =>
        obtain ⟨⟨fl4, env4, st4⟩, h4, e2⟩ := Option.bind_eq_some_iff.mp e2
        refine iteT ⟨fun σ' H' => ∃ W', HExt H W H' W' ∧ StoR X.K X.w H' W' st4 ∧ EnvR X.K X.w H' W' σ' env4 ∧ whlD t b m env4 st4 = some (fl, env', st'),
          fun σ' H' ⟨W', x', S', R', e'⟩ => ⟨m, Nat.lt_succ_self m, W', st4, env4, x', S', R', e'⟩, ?_⟩
        refine ⟨W3, st3, env2, fl4, env4, st4, R2.mono x3, S3, h4, fun σ'' H'' W'' x'' S'' R'' => ?_⟩
        have xx := (x2.trans x3).trans x''
        dsimp only at e2
        cases fl4 with
        | nx => exact ⟨W'', xx, S'', R'', e2⟩
        | ct => exact ⟨W'', xx, S'', R'', e2⟩
        | bk => cases e2; exact k σ'' H'' W'' xx S'' R''
        | rt d => cases e2; exact k σ'' H'' W'' xx S'' R''
end
end Pv
namespace Pv
open PySem PySem.Spec PyProof.Rows L2
section
variable {K : PySem.W.Frag} {w : World} {H H' H1 H2 : Hp} {W W' W1 W2 : Wd} {st st' : Sto} {X : Cx}
/-! ### methods of a list that is followed -/
def isLst : D → Bool
  | .lst _ => true
  | _ => false
def eMethL (g : D → List D → Sto → Option (D × Sto)) (o : Den) (as : List Den) : Den := fun env st => (o env st).bind fun p => if isLst (look p.2 p.1) = true then (aAll as env p.2).bind fun q => g p.1 q.1 q.2 else none
def KnW (K : PySem.W.Frag) (w : World) (H : Hp) (W : Wd) (st : Sto) (d : D) (Q : VK) : Prop := Kn K w H W st d Q
def rMeth (K : PySem.W.Frag) (w : World) (g : D → List D → Sto → Option (D × Sto)) : V → List V → Hp → VK → Prop := fun x xs H Q => ∃ W st d ds z st', StoR K w H W st ∧ Rep K w H W d x ∧ RepL K w H W ds xs ∧ g d ds st = some (z, st') ∧ Kn K w H W st' z Q
theorem isLst_at {d : D} {v : V} {H : Hp} {W : Wd} {st : Sto} (S : StoR K w H W st) (r : Rep K w H W d v) (h : isLst (look st d) = true) : tyV K "list" v H := by
  cases e : look st d with
  | lst ds =>
    obtain ⟨a, vs, rfl, hs, l⟩ := look_lst S r e
    exact .inl ⟨rfl, _, .of hs⟩
  | _ => rw [e] at h; cases h
theorem meth_at {g : D → List D → Sto → Option (D × Sto)} {o : Den} {as : List Den} {σ : L2.St} {H : Hp} {Q : VK} (h : tE K w (eMethL g o as) σ H Q) : tBM K "list" (rMeth K w g) (tE K w o) (tA K w as) σ H Q := by
  obtain ⟨W, st, env, d, st', E, S, e, k⟩ := h
  obtain ⟨⟨d1, s1⟩, h1, e⟩ := Option.bind_eq_some_iff.mp e
  dsimp only at e
  split at e
  · rename_i hl
    obtain ⟨⟨ds, s2⟩, h2, e⟩ := Option.bind_eq_some_iff.mp e
    refine ⟨W, st, env, d1, s1, E, S, h1, fun v H1 W1 x1 S1 r1 => ⟨isLst_at S1 r1 hl, ?_⟩⟩
    exact ⟨W1, s1, env, ds, s2, E.mono x1, S1, h2, fun vs H2 W2 x2 S2 r2 => ⟨W2, s2, d1, ds, d, st', S2, Rep.mono x2 d1 v r1, r2, e, k.mono (x1.trans x2)⟩⟩
  · cases e
theorem MtM.wk {id : String} {r r' : V → List V → Hp → VK → Prop} (h : MtM X id r) (k : ∀ x xs H Q, r' x xs H Q → r x xs H Q) : MtM X id r' := fun pins s σ H x xs v us Q I rx rs q => h pins s σ H x xs v us Q I rx rs (k _ _ _ _ q)
theorem MtR.wk {id : String} {r r' : V → List V → Hp → VK → Prop} (h : MtR X id r) (k : ∀ x xs H Q, r' x xs H Q → r x xs H Q) : MtR X id r' := fun pins s σ H x xs v us Q I rx rs q => h pins s σ H x xs v us Q I rx rs (k _ _ _ _ q)
/-- a list is changed in its place -/
theorem wr_lst {n : Nat} {a : Addr} {ds es : List D} {us : List V} {d : D} {H : Hp} {W : Wd} {st : Sto} {Q : VK} (S : StoR K w H W st) (hm : W.mu[n]? = some (some a)) (l : RepL K w H W es us) (k : Kn K w H W (st.set n (.lst es)) d Q) {v : V} (r : Rep K w H W d v) : Q v (upd H a (.lst us)) := by
  have x : HExt H W (upd H a (.lst us)) W := HExt.write (List.mem_iff_getElem?.mpr ⟨n, hm⟩)
  exact k v _ W x (S.write hm (.lst upd_same (RepL.mono x _ _ l))) (Rep.mono x _ _ r)
def mApp : D → List D → Sto → Option (D × Sto)
  | .ref n, [d], st => match st[n]? with
    | some (.lst ds) => if ds.length < sizeLine then some (.non, st.set n (.lst (ds ++ [d]))) else none
    | _ => none
  | _, _, _ => none
theorem m_append : MtM X "list.append" (rMeth X.K X.w mApp) :=
  MtM.wk mt_append fun x xs H Q ⟨W, st, d, ds, z, st', S, r, rs, e, k⟩ => by
    unfold mApp at e
    split at e
    · split at e
      · rename_i h
        split at e
        · rename_i hl
          cases e
          obtain ⟨a, rfl, hm, q⟩ := r.ref_at S h (by intro z; cases z)
          cases q with
          | lst h1 l =>
            cases rs with
            | cons r1 r2 =>
              cases r2
              exact ⟨a, _, _, rfl, rfl, h1, by rw [← l.length]; exact hl, wr_lst (ds := []) S hm (l.append (.cons r1 .nil)) k .non⟩
        · cases e
      · cases e
    · cases e
def mPop : D → List D → Sto → Option (D × Sto)
  | .ref n, [], st => match st[n]? with
    | some (.lst ds) => ds[ds.length - 1]?.bind fun d => some (d, st.set n (.lst ds.dropLast))
    | _ => none
  | _, _, _ => none
theorem RepL.dropLast {ds : List D} {vs : List V} (l : RepL K w H W ds vs) : RepL K w H W ds.dropLast vs.dropLast := by
  rw [List.dropLast_eq_take, List.dropLast_eq_take, l.length]
  exact l.take _
theorem m_pop : MtM X "list.pop" (rMeth X.K X.w mPop) :=
  MtM.wk mt_pop fun x xs H Q ⟨W, st, d, ds, z, st', S, r, rs, e, k⟩ => by
    unfold mPop at e
    split at e
    · split at e
      · rename_i h
        obtain ⟨y, hy, e⟩ := Option.bind_eq_some_iff.mp e
        cases e
        obtain ⟨a, rfl, hm, q⟩ := r.ref_at S h (by intro z; cases z)
        cases q with
        | lst h1 l =>
          cases rs
          obtain ⟨v, hv, rv⟩ := l.get hy
          exact ⟨a, _, v, rfl, rfl, h1, by rw [← l.length]; exact hv, wr_lst (ds := []) S hm l.dropLast k rv⟩
      · cases e
    · cases e
def mIns : D → List D → Sto → Option (D × Sto)
  | .ref n, [.int i, d], st => match st[n]? with
    | some (.lst ds) => if ds.length < sizeLine ∧ 0 ≤ i ∧ i < 2 ^ 63 then some (.non, st.set n (.lst (ds.take i.toNat ++ [d] ++ ds.drop i.toNat))) else none
    | _ => none
  | _, _, _ => none
theorem m_insert : MtR X "list.insert" (rMeth X.K X.w mIns) :=
  MtR.wk mt_insert fun x xs H Q ⟨W, st, d, ds, z, st', S, r, rs, e, k⟩ => by
    unfold mIns at e
    split at e
    · split at e
      · rename_i h
        split at e
        · rename_i hl
          cases e
          obtain ⟨a, rfl, hm, q⟩ := r.ref_at S h (by intro z; cases z)
          cases q with
          | lst h1 l =>
            cases rs with
            | cons r1 r2 =>
              cases r2 with
              | cons r2 r3 =>
                cases r3
                cases r1
                exact ⟨a, _, _, _, rfl, rfl, h1, by rw [← l.length]; exact hl.1, hl.2.1, hl.2.2, wr_lst (ds := []) S hm (((l.take _).append (.cons r2 .nil)).append (l.drop _)) k .non⟩
        · cases e
      · cases e
    · cases e
def mExt : D → List D → Sto → Option (D × Sto)
  | .ref n, [d], st => match st[n]? with
    | some (.lst ds) => match look st d with
      | .lst es => if ds.length + es.length ≤ sizeLine then some (.non, st.set n (.lst (ds ++ es))) else none
      | _ => none
    | _ => none
  | _, _, _ => none
theorem m_extend : MtM X "list.extend" (rMeth X.K X.w mExt) :=
  MtM.wk mt_extend fun x xs H Q ⟨W, st, d, ds, z, st', S, r, rs, e, k⟩ => by
    unfold mExt at e
    split at e
    · split at e
      · rename_i h
        split at e
        · rename_i h2
          split at e
          · rename_i hl
            cases e
            obtain ⟨a, rfl, hm, q⟩ := r.ref_at S h (by intro z; cases z)
            cases q with
            | lst h1 l =>
              cases rs with
              | cons r1 r2 =>
                cases r2
                obtain ⟨b, us, rfl, hb, m⟩ := look_lst S r1 h2
                exact ⟨a, b, _, _, rfl, rfl, h1, hb, by rw [← l.length, ← m.length]; exact hl, wr_lst (ds := []) S hm (l.append m) k .non⟩
          · cases e
        · cases e
      · cases e
    · cases e
theorem d_methL {g : D → List D → Sto → Option (D × Sto)} {name : Str} {id : String} {o e : Expr} {es : List Expr} {f : Den} {as : List Den} {apos cpos : Pos} (slot : Slot "list" name id) (hty : typeOf (.builtin id) = pure (.type "method_descriptor")) (hm : MtR X id (rMeth X.K X.w g)) (ho : DE X o f) (ha : DA X (e :: es) as)
    (hbase : attributeBase o name X.env (eval o X.env) = eval o X.env := by rfl)
    (hfew : ((backTo cpos (starEach (e :: es) X.env)).all (fun x => !x.1) && (backToKw cpos (keywordEach [] X.env)).all (fun x => x.1.isSome)
      && decide ((e :: es).length + ([] : List Keyword).length + (if ([] : List Keyword).isEmpty then 0 else 1) < 30)) = true := by rfl)
    (hline : (apos.endLine == cpos.line) = true := by rfl) (hs : starEach (e :: es) X.env = (false, eval e X.env) :: starEach es X.env := by rfl) (hplain : (backTo cpos (starEach es X.env)).any (·.1) = false := by rfl) :
    DE X (.Call (.Attribute o name apos) (e :: es) [] cpos) (eMethL g f as) :=
  PE.wk (pe_bm PySem.F.plainAttrs_list slot hty hm ho ha hbase hfew hline hs hplain) fun _ _ _ => meth_at
theorem meth0_at {g : D → List D → Sto → Option (D × Sto)} {o : Den} {σ : L2.St} {H : Hp} {Q : VK} (h : tE K w (eMethL g o []) σ H Q) : tBM0 K "list" (rMeth K w g) (tE K w o) σ H Q := by
  obtain ⟨W, st, env, d, st', E, S, e, k⟩ := h
  obtain ⟨⟨d1, s1⟩, h1, e⟩ := Option.bind_eq_some_iff.mp e
  dsimp only at e
  split at e
  · rename_i hl
    obtain ⟨⟨ds, s2⟩, h2, e⟩ := Option.bind_eq_some_iff.mp e
    cases h2
    exact ⟨W, st, env, d1, s1, E, S, h1, fun v H1 W1 x1 S1 r1 => ⟨isLst_at S1 r1 hl, W1, s1, d1, [], d, st', S1, r1, .nil, e, k.mono x1⟩⟩
  · cases e
theorem d_methL0 {g : D → List D → Sto → Option (D × Sto)} {name : Str} {id : String} {o : Expr} {f : Den} {apos cpos : Pos} (slot : Slot "list" name id) (hty : typeOf (.builtin id) = pure (.type "method_descriptor")) (hm : MtR X id (rMeth X.K X.w g)) (ho : DE X o f)
    (hbase : attributeBase o name X.env (eval o X.env) = eval o X.env := by rfl) (hline : (apos.endLine == cpos.line) = true := by rfl) :
    DE X (.Call (.Attribute o name apos) [] [] cpos) (eMethL g f []) :=
  PE.wk (pe_bm0 PySem.F.plainAttrs_list slot hty hm ho hbase hline) fun _ _ _ => meth0_at
end
end Pv
namespace Pv
open PySem PySem.Spec PyProof.Rows L2

/-! ### dicts whose keys are tuples: look-up, store -/
def dGet : List D → List D → NestedKey → Option D
  | k :: ks, v :: vs, nk => if keyOf k = some nk then some v else dGet ks vs nk
  | _, _, _ => none
def dHas (ks : List D) (nk : NestedKey) : Bool := ks.any fun k => decide (keyOf k = some nk)
def dPut : List D → List D → NestedKey → D → List D
  | k :: ks, v :: vs, nk, z => (if keyOf k = some nk then z else v) :: dPut ks vs nk z
  | _, vs, _, _ => vs
theorem dPut_length : ∀ (ks vs : List D) (nk : NestedKey) (z : D), (dPut ks vs nk z).length = vs.length
  | [], [], _, _ => rfl
  | [], _ :: _, _, _ => rfl
  | _ :: _, [], _, _ => rfl
  | k :: ks, v :: vs, nk, z => by simp [dPut, dPut_length ks vs nk z]
section
variable {K : PySem.W.Frag} {w : World} {H H' H1 H2 : Hp} {W W' W1 W2 : Wd} {st st' : Sto} {X : Cx}
mutual
theorem Rep.nested {X : Cx} {pins : List (Addr × Obj)} {σ : L2.St} {H : Hp} {s : Shared} {W : Wd} (I : Inv X pins σ H s) : ∀ (d : D) (v : V) (u : Value) (nk : NestedKey), Rep X.K X.w H W d v → RelV v u → keyOf d = some nk → NestedIs s.heap nk u
  | .non, _, _, _, r, q, e => by cases r; cases q; cases e; exact .none
  | .bl b, _, _, _, r, q, e => by cases r; cases q; cases e; exact .bool rfl
  | .int i, _, _, _, r, q, e => by cases r; obtain ⟨t, rfl⟩ := q; cases e; exact .int i t
  | .str x, _, _, _, r, q, e => by cases r; obtain ⟨t, rfl⟩ := q; cases e; exact .text x t
  | .tup ds, _, _, nk, r, q, e => by
    rw [keyOf] at e
    split at e
    · rename_i ks hk
      cases e
      have key : ∀ {a : Addr} {vs : List V}, SqT X.K H a vs → RepL X.K X.w H W ds vs → NestedIs s.heap (.tup ks) (.ref a) := fun {a vs} hs l => by
        obtain ⟨its, rv, ⟨o, ho, hc, n, hd⟩, _⟩ := I.tuple hs
        exact .tup ho hc hd (RepL.nested I ds vs its ks l rv hk)
      cases r with
      | tup _ h l => cases q; exact key (.of h) l
      | tupK h l => cases q; exact key (h H) l
    · cases e
  | .lst _, _, _, _, _, _, e => by simp [keyOf] at e
  | .dct _ _ _, _, _, _, _, _, e => by simp [keyOf] at e
  | .set _ _, _, _, _, _, _, e => by simp [keyOf] at e
  | .scr _, _, _, _, _, _, e => by simp [keyOf] at e
  | .ref _, _, _, _, _, _, e => by simp [keyOf] at e
theorem RepL.nested {X : Cx} {pins : List (Addr × Obj)} {σ : L2.St} {H : Hp} {s : Shared} {W : Wd} (I : Inv X pins σ H s) : ∀ (ds : List D) (vs : List V) (us : List Value) (ks : List NestedKey), RepL X.K X.w H W ds vs → Vals vs us → keysOf ds = some ks → NestedAll s.heap ks us
  | [], _, _, _, r, q, e => by cases r; cases q; cases e; exact .nil
  | d :: ds, _, _, ks, r, q, e => by
    rw [keysOf] at e
    split at e
    · rename_i k ks' h1 h2
      cases e
      cases r with
      | cons r1 r2 =>
        cases q with
        | cons q1 q2 => exact .cons (Rep.nested I d _ _ k r1 q1 h1) (RepL.nested I ds _ _ ks' r2 q2 h2)
    · cases e
end
/-- the entries, in step -/
inductive Al (K : PySem.W.Frag) (w : World) (H : Hp) (W : Wd) (h : Heap) : List D → List V → List D → List V → List (NestedKey × Addr × Value) → Prop
  | nil : Al K w H W h [] [] [] [] []
  | cons {k v : D} {a : Addr} {vv : V} {u : Value} {nk : NestedKey} {ks vs : List D} {kV vV : List V} {xs : List (NestedKey × Addr × Value)} : keyOf k = some nk → nk.depth ≤ 8 → isTup k = true → Rep K w H W k (.ref a) → NestedIs h nk (.ref a) → Rep K w H W v vv → RelV vv u →
      Al K w H W h ks kV vs vV xs → Al K w H W h (k :: ks) (.ref a :: kV) (v :: vs) (vv :: vV) ((nk, a, u) :: xs)
theorem tup_ref {k : D} {v : V} (h : isTup k = true) (r : Rep K w H W k v) : ∃ a, v = .ref a := by
  cases k with
  | tup ds => cases r with
    | tup _ _ _ => exact ⟨_, rfl⟩
    | tupK _ _ => exact ⟨_, rfl⟩
  | _ => cases h
theorem al_of {X : Cx} {pins : List (Addr × Obj)} {σ : L2.St} {H : Hp} {s : Shared} {W : Wd} (I : Inv X pins σ H s) : ∀ {ks vs : List D} {kV vV : List V} {es : List DictEntry}, RepL X.K X.w H W ks kV → RepL X.K X.w H W vs vV → ks.length = vs.length →
    (∀ k ∈ ks, isTup k = true ∧ ∃ nk, keyOf k = some nk ∧ nk.depth ≤ 8) → Paired EntR (ents (ks.map (hashOf X.w)) kV vV) es → ∃ xs, Al X.K X.w H W s.heap ks kV vs vV xs ∧ es = xs.map (entryOfKey (nestedKind X.prog X.w))
  | [], [], _, _, _, .nil, .nil, _, _, p => by cases p; exact ⟨[], .nil, rfl⟩
  | [], _ :: _, _, _, _, _, _, hl, _, _ => by cases hl
  | _ :: _, [], _, _, _, _, _, hl, _, _ => by cases hl
  | k :: ks, v :: vs, _, _, _, .cons (v := kv) r1 r2, .cons (v := vv) q1 q2, hl, hk, p => by
    obtain ⟨ht, nk, e, hd⟩ := hk k List.mem_cons_self
    obtain ⟨a, rfl⟩ := tup_ref ht r1
    cases p with
    | @cons _ en _ es' h1 h2 =>
      obtain ⟨xs, al, rfl⟩ := al_of I r2 q2 (Nat.succ.inj hl) (fun k h => hk k (List.mem_cons_of_mem _ h)) h2
      obtain ⟨hh, hkey, hval⟩ := h1
      obtain ⟨hash, key, val⟩ := en
      simp only at hh hkey hval
      cases (show key = Value.ref a from hkey)
      refine ⟨(nk, a, val) :: xs, .cons e hd ht r1 (Rep.nested I k _ _ nk r1 rfl e) q1 hval al, ?_⟩
      have hw : hashOf X.w k = nk.hash X.w := by unfold hashOf; rw [e]; rfl
      rw [List.map_cons]
      congr 1
      show DictEntry.mk hash (.ref a) val = ⟨(nestedKind X.prog X.w).hash nk, .ref a, val⟩
      rw [hh, hw]; rfl
theorem Al.keys {h : Heap} {ks vs : List D} {kV vV : List V} {xs : List (NestedKey × Addr × Value)} (al : Al K w H W h ks kV vs vV xs) : ks.map keyOf = xs.map fun x => some x.1 := by
  induction al with
  | nil => rfl
  | cons e _ _ _ _ _ _ _ ih => rw [List.map_cons, List.map_cons, e, ih]
theorem Al.is {h : Heap} {P : Program} {ks vs : List D} {kV vV : List V} {xs : List (NestedKey × Addr × Value)} (al : Al K w H W h ks kV vs vV xs) : ∀ x ∈ xs, (nestedKind P w).is h x.1 x.2.1 := by
  induction al with
  | nil => intro x hx; cases hx
  | cons e d _ _ n _ _ _ ih =>
    intro x hx
    rcases List.mem_cons.mp hx with rfl | hx
    · exact ⟨n, d⟩
    · exact ih x hx
theorem Al.length {h : Heap} {ks vs : List D} {kV vV : List V} {xs : List (NestedKey × Addr × Value)} (al : Al K w H W h ks kV vs vV xs) : kV.length = xs.length := by
  induction al with
  | nil => rfl
  | cons _ _ _ _ _ _ _ _ ih => rw [List.length_cons, List.length_cons, ih]
theorem Al.get {h : Heap} {ks vs : List D} {kV vV : List V} {xs : List (NestedKey × Addr × Value)} (al : Al K w H W h ks kV vs vV xs) (nk : NestedKey) : (∃ v vv u a, dGet ks vs nk = some v ∧ Rep K w H W v vv ∧ RelV vv u ∧ atKey xs nk = some (a, u)) ∨ (dGet ks vs nk = none ∧ atKey xs nk = none) := by
  induction al with
  | nil => exact .inr ⟨rfl, rfl⟩
  | @cons k v a vv u nk' ks vs kV vV xs e d t r n q rel al ih =>
    by_cases hk : nk' = nk
    · subst hk
      refine .inl ⟨v, vv, u, a, ?_, q, rel, ?_⟩
      · simp [dGet, e]
      · simp [atKey]
    · have h1 : dGet (k :: ks) (v :: vs) nk = dGet ks vs nk := by simp [dGet, e, hk]
      have h2 : atKey ((nk', a, u) :: xs) nk = atKey xs nk := by simp [atKey, hk]
      rw [h1, h2]; exact ih
theorem Al.has {h : Heap} {ks vs : List D} {kV vV : List V} {xs : List (NestedKey × Addr × Value)} (al : Al K w H W h ks kV vs vV xs) (nk : NestedKey) : (atKey xs nk).isSome = dHas ks nk := by
  induction al with
  | nil => rfl
  | @cons k v a vv u nk' ks vs kV vV xs e d t r n q rel al ih =>
    by_cases hk : nk' = nk
    · subst hk
      simp [atKey, dHas, e]
    · have h2 : atKey ((nk', a, u) :: xs) nk = atKey xs nk := by simp [atKey, hk]
      rw [h2, ih]
      simp [dHas, e, hk]
theorem dHas_get : ∀ {ks vs : List D} {nk : NestedKey}, ks.length = vs.length → (dGet ks vs nk).isSome = dHas ks nk
  | [], [], _, _ => rfl
  | [], _ :: _, _, h => by cases h
  | _ :: _, [], _, h => by cases h
  | k :: ks, v :: vs, nk, h => by
    unfold dGet dHas
    by_cases e : keyOf k = some nk
    · simp [e]
    · have ih := dHas_get (ks := ks) (vs := vs) (nk := nk) (Nat.succ.inj h)
      unfold dHas at ih
      simp [e, ih]
/-- a value replaced -/
theorem Al.put {h : Heap} {ks vs : List D} {kV vV : List V} {xs : List (NestedKey × Addr × Value)} {z : D} {zv : V} {zu : Value} (nk : NestedKey) (rz : Rep K w H W z zv) (rel : RelV zv zu) (al : Al K w H W h ks kV vs vV xs) : ∃ vV', Al K w H W h ks kV (dPut ks vs nk z) vV' (xs.map (putAt nk zu)) := by
  induction al with
  | nil => exact ⟨[], .nil⟩
  | @cons k v a vv u nk' ks vs kV vV xs e d t r n q rl al ih =>
    obtain ⟨vV', al'⟩ := ih
    by_cases hk : nk' = nk
    · subst hk
      refine ⟨zv :: vV', ?_⟩
      rw [dPut, if_pos e, List.map_cons, putAt, if_pos rfl]
      exact .cons e d t r n rz rel al'
    · refine ⟨vv :: vV', ?_⟩
      rw [dPut, if_neg (by rw [e]; intro z; exact hk (Option.some.inj z)), List.map_cons, putAt, if_neg hk]
      exact .cons e d t r n q rl al'
theorem Al.snoc {h : Heap} {k v : D} {a : Addr} {vv : V} {u : Value} {nk : NestedKey} (e : keyOf k = some nk) (d : nk.depth ≤ 8) (t : isTup k = true) (r : Rep K w H W k (.ref a)) (n : NestedIs h nk (.ref a)) (q : Rep K w H W v vv) (rl : RelV vv u) :
    ∀ {ks vs : List D} {kV vV : List V} {xs : List (NestedKey × Addr × Value)}, Al K w H W h ks kV vs vV xs → Al K w H W h (ks ++ [k]) (kV ++ [.ref a]) (vs ++ [v]) (vV ++ [vv]) (xs ++ [(nk, a, u)]) := fun {ks vs kV vV xs} al => by
  induction al with
  | nil => exact .cons e d t r n q rl .nil
  | cons e' d' t' r' n' q' rl' _ ih => exact .cons e' d' t' r' n' q' rl' ih
theorem Al.ents {h : Heap} {P : Program} {ks vs : List D} {kV vV : List V} {xs : List (NestedKey × Addr × Value)} (al : Al K w H W h ks kV vs vV xs) : Paired EntR (ents (ks.map (hashOf w)) kV vV) (xs.map (entryOfKey (nestedKind P w))) := by
  induction al with
  | nil => exact .nil
  | @cons k v a vv u nk' ks vs kV vV xs e d t r n q rl al ih =>
    refine .cons ⟨?_, rfl, rl⟩ ih
    show nk'.hash w = hashOf w k
    unfold hashOf; rw [e]; rfl
/-- the raw dict of what is held -/
theorem dict_raw {X : Cx} {pins : List (Addr × Obj)} {σ : L2.St} {H : Hp} {s : Shared} {W : Wd} (I : Inv X pins σ H s) {a : Addr} {ks vs : List D} {kV vV : List V} {ep : Nat} (h : H a = some (dObj a (ks.map (hashOf X.w)) kV vV ep)) (ok : DOk true ks vs) (l : RepL X.K X.w H W ks kV) (m : RepL X.K X.w H W vs vV) :
    ∃ xs, Al X.K X.w H W s.heap ks kV vs vV xs ∧ s.heap.DictOfH (nestedKind X.prog X.w) a xs ∧ (a == sysModules) = false ∧ xs.length ≤ sizeLine ∧ ∃ es, s.heap.DictRaw a es ep ∧ es.toList = xs.map (entryOfKey (nestedKind X.prog X.w)) := by
  obtain ⟨⟨ns, z, o, es, ho, ex, hd, p⟩, _⟩ := I.hok a _ h
  obtain ⟨xs, al, e⟩ := al_of I l m ok.len ok.key p
  have nd : (xs.map (·.1)).Nodup := by
    have q := ok.nd
    rw [al.keys] at q
    have q' : (xs.map (fun x => some x.1)).Nodup := q
    rw [show (fun (x : NestedKey × Addr × Value) => some x.1) = some ∘ (·.1) from rfl, ← List.map_map] at q'
    exact List.Pairwise.of_map some (fun _ _ h z => h (by rw [z])) q'
  exact ⟨xs, al, ⟨o, es, ep, ho, ex, hd, e, al.is, nd⟩, ns, by rw [← al.length]; exact z, es, ⟨o, ho, ex, hd⟩, e⟩
/-- a key -/
theorem key_is {X : Cx} {pins : List (Addr × Obj)} {σ : L2.St} {H : Hp} {s : Shared} {W : Wd} (I : Inv X pins σ H s) {k : D} {v : V} {u : Value} {nk : NestedKey} (r : Rep X.K X.w H W k v) (rel : RelV v u) (t : isTup k = true) (e : keyOf k = some nk) (d : nk.depth ≤ 8) : ∃ a, v = .ref a ∧ u = .ref a ∧ (nestedKind X.prog X.w).is s.heap nk a := by
  obtain ⟨a, rfl⟩ := tup_ref t r
  cases rel
  exact ⟨a, rfl, rfl, Rep.nested I k _ _ nk r rfl e, d⟩
theorem look_tupk {st : Sto} {d : D} (h : isTup (look st d) = true) : look st d = d := by
  cases e : look st d with
  | tup ds => exact (look_self e).symm
  | _ => rw [e] at h; cases h
/-- a dict's key: a tuple -/
def tkey (k : D) : Option NestedKey := if isTup k = true then (keyOf k).bind fun nk => if nk.depth ≤ 8 then some nk else none else none
theorem tkey_inv {k : D} {nk : NestedKey} (h : tkey k = some nk) : isTup k = true ∧ keyOf k = some nk ∧ nk.depth ≤ 8 := by
  unfold tkey at h
  split at h
  · rename_i t
    obtain ⟨nk', h1, h⟩ := Option.bind_eq_some_iff.mp h
    split at h
    · cases h; exact ⟨t, h1, by assumption⟩
    · cases h
  · cases h

/-! ### in, not in, d[k] -/
def gInT (k : D) : D → Option D
  | .dct true ks vs => (tkey k).map fun nk => .bl (dHas ks nk)
  | _ => none
def gNotInT (k : D) (y : D) : Option D := (gInT k y).bind fun z => match z with
  | .bl b => some (.bl (!b))
  | _ => none
theorem inT_core (neg : Bool) (hu : X.A.units + 9 < cLine) {pins : List (Addr × Obj)} {s : Shared} {σ : L2.St} {H : Hp} {x y : V} {v u : Value} {Q : VK} (I : Inv X pins σ H s) (rx : RelV x v) (ry : RelV y u)
    {W : Wd} {st : Sto} {d1 d2 : D} {b : Bool} (S : StoR X.K X.w H W st) (r1 : Rep X.K X.w H W d1 x) (r2 : Rep X.K X.w H W d2 y) (e : gInT (look st d1) (look st d2) = some (.bl b)) (k : Q (.bl (if neg = true then !b else b)) H) :
    wpAny (model X.prog X.w) X.A (compareOp (if neg = true then .NotIn else .In) v u) (EP X pins σ Q) X.xe s := by
  unfold gInT at e
  split at e
  · rename_i ks vs h2
    obtain ⟨nk, h1, e⟩ := Option.map_eq_some_iff.mp e
    cases e
    obtain ⟨t, hk, hd⟩ := tkey_inv h1
    have lt := look_tupk t
    rw [lt] at t hk
    obtain ⟨a, kV, vV, ep, rfl, ha, ok, l, m⟩ := look_dct S r2 h2
    obtain ⟨xs, al, dh, ns, hz, _⟩ := dict_raw I ha ok l m
    obtain ⟨p, rfl, rfl, is⟩ := key_is I r1 rx t hk hd
    cases ry
    have room : (nestedKind X.prog X.w).room X.A.in1 := by show X.A.units + 1 + 8 < cLine; omega
    cases neg
    · exact wpAny_in_heap room is ns dh ⟨.bl _, H, I.tok _, rfl, by rw [al.has]; exact k⟩
    · exact notIn_keyed room is ns ⟨xs, dh, rfl⟩ ⟨.bl _, H, I.tok _, rfl, by rw [valueAt_pairsH, Option.isSome_map, al.has]; exact k⟩
  · cases e
theorem gInT_bl {x y z : D} (h : gInT x y = some z) : ∃ b, z = .bl b := by
  unfold gInT at h
  split at h
  · obtain ⟨nk, _, h⟩ := Option.map_eq_some_iff.mp h
    exact ⟨_, h.symm⟩
  · cases h
theorem o_inT (hu : X.A.units + 9 < cLine) : OpR X (compareOp .In) (rBin X.K X.w gInT) := fun pins s σ H x y v u Q I rx ry ⟨W, st, d1, d2, z, S, r1, r2, e, k⟩ => by
  obtain ⟨b, rfl⟩ := gInT_bl e
  exact inT_core false hu I rx ry S r1 r2 e (k.now S (.bl _))
theorem o_notinT (hu : X.A.units + 9 < cLine) : OpR X (compareOp .NotIn) (rBin X.K X.w gNotInT) := fun pins s σ H x y v u Q I rx ry ⟨W, st, d1, d2, z, S, r1, r2, e, k⟩ => by
  unfold gNotInT at e
  obtain ⟨z', h, e⟩ := Option.bind_eq_some_iff.mp e
  obtain ⟨b, rfl⟩ := gInT_bl h
  cases e
  exact inT_core true hu I rx ry S r1 r2 h (k.now S (.bl _))
def gIxT (d k : D) : Option D := match d with
  | .dct true ks vs => (tkey k).bind fun nk => dGet ks vs nk
  | _ => none
theorem o_ixT (hu : X.A.units + 9 < cLine) : IxR X (rBin X.K X.w gIxT) := fun value slice pins s σ H x y v u Q I rx ry ⟨W, st, d1, d2, z, S, r1, r2, e, k⟩ hs => by
  unfold gIxT at e
  split at e
  · rename_i ks vs h2
    obtain ⟨nk, h1, e⟩ := Option.bind_eq_some_iff.mp e
    obtain ⟨t, hk, hd⟩ := tkey_inv h1
    have lt := look_tupk t
    rw [lt] at t hk
    obtain ⟨a, kV, vV, ep, rfl, ha, ok, l, m⟩ := look_dct S r1 h2
    obtain ⟨xs, al, dh, ns, hz, _⟩ := dict_raw I ha ok l m
    obtain ⟨p, rfl, rfl, is⟩ := key_is I r2 ry t hk hd
    cases rx
    have room : (nestedKind X.prog X.w).room X.A.in1 := by show X.A.units + 1 + 8 < cLine; omega
    rcases al.get nk with ⟨v', vv, u', a', g1, rv, rel, g2⟩ | ⟨g1, _⟩
    · rw [e] at g1; cases g1
      exact subscriptTail_builtinR (x := u') dh.typeIs PySem.F.slot_dict_getitem.lookup (wpAny_getItem_heap (Q := fun r s' => r = u' ∧ EP X pins σ Q r s') room is dh g2 ⟨rfl, vv, H, I.tok _, rel, k.now S rv⟩) hs
    · rw [e] at g1; cases g1
  · cases e

/-! ### d[k] = v -/
theorem dict_after {X : Cx} {H : Hp} {s : Shared} {W : Wd} {h' : Heap} {a : Addr} {ks vs : List D} {kV vV : List V} {xs : List (NestedKey × Addr × Value)} (al : Al X.K X.w H W s.heap ks kV vs vV xs) (dh : h'.DictOfH (nestedKind X.prog X.w) a xs) (ns : (a == sysModules) = false) (hz : kV.length ≤ sizeLine) :
    ∃ ep, ObjOk X.prog X.w (upd H a (dObj a (ks.map (hashOf X.w)) kV vV ep)) h' a (dObj a (ks.map (hashOf X.w)) kV vV ep) := by
  obtain ⟨o, es, ep, ho, ex, hd, he, _, _⟩ := dh
  refine ⟨ep, ⟨ns, hz, o, es, ho, ex, hd, ?_⟩, ⟨o, ho⟩, fun h1 h2 x k => x.stable _ _ k⟩
  rw [he]
  exact al.ents
theorem Al.ok {h : Heap} {ks vs : List D} {kV vV : List V} {xs : List (NestedKey × Addr × Value)} (al : Al K w H W h ks kV vs vV xs) : RepL K w H W ks kV ∧ RepL K w H W vs vV := by
  induction al with
  | nil => exact ⟨.nil, .nil⟩
  | cons _ _ _ r _ q _ _ ih => exact ⟨.cons r ih.1, .cons q ih.2⟩
def dSet (ks vs : List D) (k : D) (nk : NestedKey) (z : D) : List D × List D := if dHas ks nk = true then (ks, dPut ks vs nk z) else (ks ++ [k], vs ++ [z])
theorem DOk.set {ks vs : List D} {k z : D} {nk : NestedKey} (ok : DOk true ks vs) (t : isTup k = true) (e : keyOf k = some nk) (d : nk.depth ≤ 8) : DOk true (dSet ks vs k nk z).1 (dSet ks vs k nk z).2 := by
  unfold dSet
  by_cases h : dHas ks nk = true
  · rw [if_pos h]
    exact ⟨by rw [dPut_length]; exact ok.len, ok.nd, ok.key⟩
  · rw [if_neg h]
    refine ⟨by rw [List.length_append, List.length_append, ok.len]; rfl, ?_, fun k' hk' => ?_⟩
    · rw [List.map_append, List.map_singleton, e]
      refine List.nodup_append.mpr ⟨ok.nd, by simp, fun x hx y hy => ?_⟩
      have hy : y = some nk := by simpa using hy
      subst hy
      intro z
      subst z
      obtain ⟨k', hk', e'⟩ := List.mem_map.mp hx
      exact h (List.any_eq_true.mpr ⟨k', hk', by simp [e']⟩)
    · rcases List.mem_append.mp hk' with hk' | hk'
      · exact ok.key k' hk'
      · have : k' = k := by simpa using hk'
        subst this
        exact ⟨t, nk, e, d⟩
/-- what a store leaves, by the entries -/
theorem al_set {X : Cx} {H : Hp} {s : Shared} {W : Wd} {ks vs : List D} {kV vV : List V} {xs : List (NestedKey × Addr × Value)} {k z : D} {p : Addr} {zv : V} {zu : Value} {nk : NestedKey} (al : Al X.K X.w H W s.heap ks kV vs vV xs) (rk : Rep X.K X.w H W k (.ref p)) (t : isTup k = true) (e : keyOf k = some nk) (d : nk.depth ≤ 8) (n : NestedIs s.heap nk (.ref p)) (rz : Rep X.K X.w H W z zv) (rel : RelV zv zu) :
    ∃ kV' vV', Al X.K X.w H W s.heap (dSet ks vs k nk z).1 kV' (dSet ks vs k nk z).2 vV' (storedH xs nk p zu) := by
  unfold dSet storedH
  rw [al.has]
  by_cases h : dHas ks nk = true
  · rw [if_pos h, if_pos h]
    obtain ⟨vV', al'⟩ := al.put nk rz rel
    exact ⟨kV, vV', al'⟩
  · rw [if_neg h, if_neg h]
    exact ⟨_, _, al.snoc e d t rk n rz rel⟩
def setT (d1 d2 d3 : D) (st : Sto) : Option Sto := match d1 with
  | .ref n => match st[n]? with
    | some (.dct true ks vs) => (tkey d2).bind fun nk => if ks.length < sizeLine then some (st.set n (.dct true (dSet ks vs d2 nk d3).1 (dSet ks vs d2 nk d3).2)) else none
    | _ => none
  | _ => none
theorem dSet_length (ks vs : List D) (k : D) (nk : NestedKey) (z : D) : (dSet ks vs k nk z).1.length ≤ ks.length + 1 := by
  unfold dSet
  split
  · exact Nat.le_succ _
  · rw [List.length_append]; exact Nat.le_refl _
theorem wr_dct {X : Cx} {pins : List (Addr × Obj)} {σ : L2.St} {s : Shared} {h' : Heap} {tk : Nat} {n : Nat} {a : Addr} {ks ks' vs' : List D} {kV vV kV' vV' : List V} {H : Hp} {W : Wd} {st : Sto} {ep : Nat} {xs' : List (NestedKey × Addr × Value)} (I : Inv X pins σ H s) (S : StoR X.K X.w H W st) (hm : W.mu[n]? = some (some a))
    (ha : H a = some (dObj a (ks.map (hashOf X.w)) kV vV ep)) (al : Al X.K X.w H W s.heap ks' kV' vs' vV' xs') (dh : h'.DictOfH (nestedKind X.prog X.w) a xs') (sb : Heap.SameBut a s.heap h') (ns : (a == sysModules) = false) (hz : ks'.length ≤ sizeLine) (ok : DOk true ks' vs') :
    ∃ H', HExt H W H' W ∧ StoR X.K X.w H' W (st.set n (.dct true ks' vs')) ∧ Inv X pins σ H' { s with heap := h', toks := tk } := by
  obtain ⟨l, m⟩ := al.ok
  obtain ⟨ep', oo⟩ := dict_after (H := H) al dh ns (by rw [← l.length]; exact hz)
  have x : HExt H W (upd H a (dObj a (ks'.map (hashOf X.w)) kV' vV' ep')) W := HExt.write (List.mem_iff_getElem?.mpr ⟨n, hm⟩)
  refine ⟨_, x, S.write hm (.dct upd_same ok (RepL.mono x _ _ l) (RepL.mono x _ _ m)), ?_⟩
  obtain ⟨o, es, ep2, ho, _⟩ := id dh
  exact I.write (by rw [ha]; trivial) (.inl rfl) (fun b u hb q => (sb.2 b hb).trans q) ⟨o, ho⟩ oo
theorem o_setT (hu : X.A.units + 9 < cLine) : PSet X (rSet X.K X.w setT) := fun pins s σ H o i v ov iv u Q I ro ri rv ⟨W, st, d1, d2, d3, st', S, r1, r2, r3, e, k⟩ => by
  unfold setT at e
  split at e
  · split at e
    · rename_i ks vs h
      obtain ⟨nk, h1, e⟩ := Option.bind_eq_some_iff.mp e
      split at e
      · rename_i hl
        cases e
        obtain ⟨t, hk, hd⟩ := tkey_inv h1
        obtain ⟨a, rfl, hm, q⟩ := r1.ref_at S h (by intro z; cases z)
        cases q with
        | dct ha ok l m =>
          obtain ⟨xs, al, dh, ns, hz, _⟩ := dict_raw I ha ok l m
          obtain ⟨p, rfl, rfl, is⟩ := key_is I r2 ri t hk hd
          cases ro
          have room : (nestedKind X.prog X.w).room X.A.in1 := by show X.A.units + 1 + 8 < cLine; omega
          obtain ⟨kV', vV', al'⟩ := al_set al r2 t hk hd is.1 r3 rv
          refine wpAny_setItem_heap (hsz := hz) room is dh fun h' dh' sb => ?_
          obtain ⟨H', x, S', I'⟩ := wr_dct I S hm ha al' dh' sb ns (Nat.le_trans (dSet_length ks vs d2 nk d3) hl) (ok.set t hk hd)
          exact ⟨H', I', k H' W x S'⟩
      · cases e
    · cases e
  · cases e
end
end Pv
namespace Pv
open PySem PySem.Spec PyProof.Rows L2
section
variable {K : PySem.W.Frag} {w : World} {H H' H1 H2 : Hp} {W W' W1 W2 : Wd} {st st' : Sto} {X : Cx}
theorem dok_nil : DOk true [] [] := ⟨rfl, List.nodup_nil, fun _ h => nomatch h⟩
/-- a new dict, followed or not -/
theorem kn_dct {ks vs : List D} {kV vV : List V} {H : Hp} {W : Wd} {Q : VK} {p : Addr} {H0 : Hp} {W0 : Wd} (S : StoR K w H W st) (hp : ¬ W.pr p) (h : H p = some (dObj p (ks.map (hashOf w)) kV vV 0)) (ok : DOk true ks vs) (l : RepL K w H W ks kV) (m : RepL K w H W vs vV) (x : HExt H0 W0 H W) (k : Kn K w H0 W0 st (.dct true ks vs) Q) : Q (.ref p) H :=
  k _ H W x S (.dct hp h ok l m)
theorem empty_ok {X : Cx} {pins : List (Addr × Obj)} {σ : L2.St} {H : Hp} {s : Shared} (I : Inv X pins σ H s) : Inv X pins σ (upd H s.heap.objs.size (dObj s.heap.objs.size [] [] [] 0)) { s with heap := s.heap.push { cls := .type "dict", data := .dict #[] } } := by
  refine I.laid (t' := s.toks) (fun _ _ q => Heap.get?_push_of_some _ q) (Nat.le_refl _) ⟨⟨?_, Nat.zero_le _, _, #[], Heap.get?_push_size _ rfl, ⟨rfl, rfl, rfl⟩, rfl, .nil⟩, ⟨_, Heap.get?_push_size _ rfl⟩, fun h1 h2 x k => x.stable _ _ k⟩
  have q := I.big
  have q' : s.heap.objs.size ≠ sysModules := Nat.ne_of_gt q
  simpa using q'
def eDct0 : Den := fun _ st => some (.dct true [] [], st)
def eDct0R : Den := fun _ st => some (.ref st.length, st ++ [.dct true [] []])
theorem d_dct0 {pos : Pos} : DE X (.Dict [] [] pos) eDct0 := ⟨fun pins s σ H Q I ⟨W, st, env, d, st', E, S, e, k⟩ => by
  cases e
  have hn := I.hok.fresh (Nat.le_refl s.heap.objs.size)
  exact wpAny_Dict_empty ⟨.ref s.heap.objs.size, _, empty_ok I, rfl, k _ _ W (.upd hn) (S.upd hn) (.dct (S.npr hn) upd_same dok_nil .nil .nil)⟩⟩
theorem rep_new {p : Addr} {o : HO} (S : StoR K w H W st) (hp : H p = none) : Rep K w (L2.upd H p o) (W.add p) (.ref st.length) (.ref p) := .ref (fun a e => by
    have e : (W.mu ++ [some p])[st.length]? = some (some a) := e
    rw [← S.len, List.getElem?_append_right (Nat.le_refl _), Nat.sub_self] at e
    have e : p = a := by simpa using e
    rw [e]) (by show st.length < (W.mu ++ [some p]).length; rw [List.length_append, S.len]; exact Nat.lt_succ_self _)
theorem d_dct0R {pos : Pos} : DE X (.Dict [] [] pos) eDct0R := ⟨fun pins s σ H Q I ⟨W, st, env, d, st', E, S, e, k⟩ => by
  cases e
  have hn := I.hok.fresh (Nat.le_refl s.heap.objs.size)
  exact wpAny_Dict_empty ⟨.ref s.heap.objs.size, _, empty_ok I, rfl, k _ _ (W.add s.heap.objs.size) (.alloc hn) (S.alloc hn (.dct upd_same dok_nil .nil .nil)) (rep_new S hn)⟩⟩
/-- {k: v}, k a tuple -/
def eDct1R (a b : Den) : Den := fun env st => (a env st).bind fun p => (b env p.2).bind fun q => (tkey p.1).bind fun nk => some (.ref q.2.length, q.2 ++ [.dct true [p.1] [q.1]])
theorem StoR.alloc_prot {p : Addr} {o o' : HO} {so : SO} {st st2 : Sto} (h : H p = none) (S : StoR K w H W st) (x : HExt (L2.upd H p o) (W.prot p) H2 W2) (S2 : StoR K w H2 W2 st2)
    (r : ∀ (W3 : Wd), RM H2 W2 (L2.upd H2 p o') W3 → SoR K w (L2.upd H2 p o') W3 so p) :
    HExt H W (L2.upd H2 p o') ((W2.with W.pi).add p) ∧ StoR K w (L2.upd H2 p o') ((W2.with W.pi).add p) (st2 ++ [so]) ∧ Rep K w (L2.upd H2 p o') ((W2.with W.pi).add p) (.ref st2.length) (.ref p) := by
  -- p is erased, then laid anew
  have hpi := around_pi x
  let H3 : Hp := fun b => if b = p then none else H2 b
  have e3 : H3 p = none := if_pos rfl
  have n3 : ∀ {b}, b ≠ p → H3 b = H2 b := fun hb => if_neg hb
  have u3 : L2.upd H3 p o' = L2.upd H2 p o' := by
    funext b
    by_cases hb : b = p
    · subst hb; rw [upd_same, upd_same]
    · rw [upd_ne hb, upd_ne hb, n3 hb]
  have rm : RM H2 W2 H3 (W2.with W.pi) := ⟨Nat.le_refl _, fun _ _ _ e => e, fun a u e n => by
    have hne : a ≠ p := fun z => n (.inr (z ▸ hpi.1))
    refine ⟨by rw [n3 hne]; exact e, fun z => ?_⟩
    rcases z with z | z
    · exact n (.inl z)
    · exact n (.inr (hpi.2 a z))⟩
  have S3 : StoR K w H3 (W2.with W.pi) st2 := ⟨S2.len, fun n a e => let ⟨so, h1, r⟩ := S2.so n a e; ⟨so, h1, r.rm rm fun o e' => by
      have hne : a ≠ p := fun z => S2.npi a (List.mem_iff_getElem?.mpr ⟨n, e⟩) (z ▸ hpi.1)
      rw [n3 hne]; exact e'⟩, S2.dead, S2.inj, fun a e z => S2.npi a e (hpi.2 a z), fun a z => by
      obtain ⟨o, e⟩ := S2.pih a (hpi.2 a z)
      have hne : a ≠ p := fun q => by
        obtain ⟨o, e⟩ := S.pih a z
        rw [q, h] at e; cases e
      exact ⟨o, by rw [n3 hne]; exact e⟩⟩
  have y : HExt H3 (W2.with W.pi) (L2.upd H3 p o') ((W2.with W.pi).add p) := .alloc e3
  have z0 : HExt H W H3 (W2.with W.pi) := ⟨rfl, x.len, x.old, fun n a hn e => by
      have q := x.new n a hn e
      by_cases hp : a = p
      · subst hp; exact h
      · rw [upd_ne hp] at q; exact q, fun a u e hm => by
      have hp : a ≠ p := ne_of_none e h
      rw [n3 hp]
      exact x.keep a u (by rw [upd_ne hp]; exact e) hm, fun a u e => by
      have hp : a ≠ p := ne_of_none e h
      rw [n3 hp]
      exact x.held a u (by rw [upd_ne hp]; exact e)⟩
  have rmy : RM H2 W2 (L2.upd H3 p o') ((W2.with W.pi).add p) := ⟨Nat.le_trans rm.len y.len, fun n a hn e => y.old n a hn e, fun a u e n => by
    obtain ⟨h1, h2⟩ := rm.pr a u e n
    exact y.pr h1 h2⟩
  rw [u3] at rmy
  have y : HExt H3 (W2.with W.pi) (L2.upd H2 p o') ((W2.with W.pi).add p) := by rw [← u3]; exact y
  refine ⟨z0.trans y, ?_, ?_⟩
  · have q := StoR.alloc (so := so) e3 S3 (o := o') (by rw [u3]; exact r _ rmy)
    rw [u3] at q; exact q
  · have q := rep_new (o := o') S3 e3
    rw [u3] at q; exact q
theorem d_dct1R {a b : Expr} {f g : Den} {pos : Pos} (hu : X.A.units + 9 < cLine) (ha : DE X a f) (hb : DE X b g) : DE X (.Dict [some a] [b] pos) (eDct1R f g) := ⟨fun pins s σ H Q I ⟨W, st, env, d, st', E, S, e, k⟩ => by
  obtain ⟨⟨d1, s1⟩, h1, e⟩ := Option.bind_eq_some_iff.mp e
  obtain ⟨⟨d2, s2⟩, h2, e⟩ := Option.bind_eq_some_iff.mp e
  obtain ⟨nk, h3, e⟩ := Option.bind_eq_some_iff.mp e
  cases e
  obtain ⟨t, hk, hd⟩ := tkey_inv h3
  generalize hpp : s.heap.objs.size = p
  have hn : H p = none := I.hok.fresh (Nat.le_of_eq hpp)
  have I0 := empty_ok I
  rw [hpp] at I0
  rw [arm_eval_Dict, show (evalEachOpt [some a] X.env).zip ((evalEach [b] X.env).map fun v => do let x ← v; standAt pos; pure x) = (pairTrees [some a] [b] X.env pos).map fun p => (some p.1, p.2) from rfl, dictDisplay_pairs (pairTrees [some a] [b] X.env pos) (by simp [pairTrees]) (by show 1 < 17; decide)]
  refine wpAny_bind (wpAny_standAt (wpAny_bind (wpAny_subDictH (knd := nestedKind X.prog X.w) (Q := fun d s' => wpAny (model X.prog X.w) X.A (pure (Value.ref d)) (EP X pins σ Q) X.xe s') (by show X.A.units + 8 < cLine; omega) (by show 1 ≤ 15; decide) ?_)))
  rw [hpp]
  have q1 : tE X.K X.w f σ (upd H p (dObj p [] [] [] 0)) (fun x H1 => tE X.K X.w g σ H1 fun y H2 => ∃ W2, HExt (upd H p (dObj p [] [] [] 0)) (W.prot p) H2 W2 ∧ StoR X.K X.w H2 W2 s2 ∧ Rep X.K X.w H2 W2 d1 x ∧ Rep X.K X.w H2 W2 d2 y) :=
    ⟨W.prot p, st, env, d1, s1, E.rm (.prot hn), S.prot hn, h1, fun x H1 W1 x1 S1 r1 => ⟨W1, s1, env, d2, s2, (E.rm (.prot hn)).mono x1, S1, h2, fun y H2 W2 x2 S2 r2 => ⟨W2, x1.trans x2, S2, Rep.mono x2 d1 x r1, r2⟩⟩⟩
  refine pairTrees_cons_walk (thn (ha.run pins _ σ _ _ I0 q1) fun u s3 ⟨x, H1, I1, rx, q2⟩ => thn (hb.run pins s3 σ H1 _ I1 q2) fun z s4 ⟨y, H2, I2, ry, W2, x2, S2, r1, r2⟩ => pairTrees_nil_walk ?_)
  obtain ⟨pa, rfl, rfl, is⟩ := key_is I2 r1 rx t hk hd
  have hp2 : H2 p = some (dObj p [] [] [] 0) := x2.keep p _ upd_same fun z => by
    obtain ⟨n, e⟩ := List.mem_iff_getElem?.mp z
    obtain ⟨so, _, r⟩ := S.so n p e
    obtain ⟨o, r⟩ := r.has
    rw [hn] at r; cases r
  obtain ⟨⟨ns, _, o, es, ho, ex, hdd, pr⟩, _⟩ := I2.hok p _ hp2
  have hes : es.toList = [] := by
    generalize es.toList = l at pr
    cases pr; rfl
  refine ⟨[(nk, pa, z)], ⟨rfl, rfl, is, trivial⟩, ⟨o, es, 0, ho, ex, hdd, hes, by simp, List.nodup_nil⟩, fun h' tk dh sb => wpAny_pure ?_⟩
  have dh : h'.DictOfH (nestedKind X.prog X.w) p [(nk, pa, z)] := dh
  obtain ⟨o', es', ep', ho', ex', hd', he', _, _⟩ := dh
  have oo : ObjOk X.prog X.w (upd H2 p (dObj p ([d1].map (hashOf X.w)) [.ref pa] [y] ep')) h' p (dObj p ([d1].map (hashOf X.w)) [.ref pa] [y] ep') := by
    refine ⟨⟨ns, by show 1 ≤ sizeLine; decide, o', es', ho', ex', hd', ?_⟩, ⟨o', ho'⟩, fun h1 h2 x k => x.stable _ _ k⟩
    rw [he']
    refine .cons ⟨?_, rfl, ry⟩ .nil
    show nk.hash X.w = hashOf X.w d1
    unfold hashOf; rw [hk]; rfl
  have I3 : Inv X pins σ (upd H2 p (dObj p ([d1].map (hashOf X.w)) [.ref pa] [y] ep')) { s4 with heap := h', toks := tk } :=
    I2.write (by rw [hp2]; trivial) (.inl rfl) (fun b u hb q => (sb.2 b hb).trans q) ⟨o', ho'⟩ oo
  have dok : DOk true [d1] [d2] := ⟨rfl, by simp, fun k' hk' => by
    have : k' = d1 := by simpa using hk'
    subst this
    exact ⟨t, nk, hk, hd⟩⟩
  obtain ⟨y1, y2, y3⟩ := StoR.alloc_prot (o' := dObj p ([d1].map (hashOf X.w)) [.ref pa] [y] ep') (so := .dct true [d1] [d2]) hn S x2 S2 fun W3 rm => .dct upd_same dok (.cons (Rep.rm rm _ _ r1) .nil) (.cons (Rep.rm rm _ _ r2) .nil)
  exact ⟨.ref p, _, I3, rfl, k _ _ _ y1 y2 y3⟩⟩
end
end Pv
namespace Pv
open PySem PySem.Spec PyProof.Rows L2

/-! ### comprehensions of any kind, any number of clauses: the machine's turns -/
inductive CK where
  | lc (elt : Expr) | sc (elt : Expr) | dc (kx vx : Expr)
def CK.expr (c : CK) (gens : List Comprehension) (scope : Scope) (pos : Pos) : Expr := match c with
  | .lc elt => .ListComp elt gens scope pos
  | .sc elt => .SetComp elt gens scope pos
  | .dc kx vx => .DictComp kx vx gens scope pos
def CK.emit (c : CK) (acc : Value) (env : PySem.Env) : Sem Unit := match c with
  | .lc elt => do let _ ← call (.builtin "list.append") [acc, ← eval elt env]
  | .sc elt => do let v ← eval elt env; standAt elt.pos; let _ ← call (.builtin "set.add") [acc, v]
  | .dc k v => do
        let kv ← eval k env
        let vv ← holding [kv] (eval v env)
        match acc with
        | .ref d => do
          standAt { k.pos with endLine := v.pos.endLine, endCol := v.pos.endCol }
          holding [kv, vv] (dictSet d kv vv)
        | _ => unsupported "internal:dictcomp"
section
variable {prog : Program} {w : World} {A : Around} {R : Result → Shared → Prop} {s : Shared} {c : CK} {gens : List Comprehension} {k : Nat} {tg iter tg1 iter1 : Expr} {ifs ifs1 : List Expr} {scope : Scope} {pos : Pos} {it acc : Value} {env : PySem.Env}
theorem turn_last (hk : gens[k]? = some ⟨tg, iter, ifs, 0⟩) (hk' : gens[k + 1]? = none) : compTurn (c.expr gens scope pos) k it acc env = (do
      standAt iter.pos
      match ← pyNext it with
      | none => pure (.done .next)
      | some v =>
        letOwnedTupleGo tg it v
        assign tg env v
        let mut ok := true
        for c in ifs do
          if ok then ok ← isTrue c env (eval c env)
        if ok then
          c.emit acc env
        again (.compLoop (c.expr gens scope pos) k it acc env)) := by
  cases c <;> (simp only [CK.expr, CK.emit]; unfold compTurn; dsimp only; rw [hk, hk']; rfl)
theorem turn_mid (hk : gens[k]? = some ⟨tg, iter, ifs, 0⟩) (hk' : gens[k + 1]? = some ⟨tg1, iter1, ifs1, 0⟩) : compTurn (c.expr gens scope pos) k it acc env = (do
      standAt iter.pos
      match ← pyNext it with
      | none => pure (.done .next)
      | some v =>
        letOwnedTupleGo tg it v
        assign tg env v
        let mut ok := true
        for c in ifs do
          if ok then ok ← isTrue c env (eval c env)
        if ok then
          let x ← eval iter1 env
          standAt iter1.pos
          let x ← foldedSetIterable iter1 env x
          let _ ← runOwn (.compStart (c.expr gens scope pos) (k + 1) (← holding [x] (pyIter x)) acc env) env
        again (.compLoop (c.expr gens scope pos) k it acc env)) := by
  cases c <;> (simp only [CK.expr]; unfold compTurn; dsimp only; rw [hk, hk']; rfl)
theorem den_loop {Q : Fin → Shared → Prop} {E : Value → Shared → Prop} (h : wpAny (model prog w) A ((compTurn (c.expr gens scope pos) k it acc env).onRaise (fun x => do noteFrame x env; theTreesLotGoes x)) Q E s) :
    wpAny (model prog w) (A.under (.compLoop (c.expr gens scope pos) k it acc env)) ((model prog w).den (.compLoop (c.expr gens scope pos) k it acc env)) Q E s := by
  cases c <;> exact h
theorem den_start {Q : Fin → Shared → Prop} {E : Value → Shared → Prop} (h : wpAny (model prog w) A ((compStart (c.expr gens scope pos) k it acc env).onRaise (fun x => do noteFrame x env; standAt theWindowsPlace)) Q E s) :
    wpAny (model prog w) (A.under (.compStart (c.expr gens scope pos) k it acc env)) ((model prog w).den (.compStart (c.expr gens scope pos) k it acc env)) Q E s := by
  cases c <;> exact h
abbrev Ne (prog : Program) (w : World) (A : Around) (env : PySem.Env) (R : Result → Shared → Prop) : Value → Shared → Prop := notedBy (model prog w) A env fun e s' => R (.error e) s'
theorem loop_last (hk : gens[k]? = some ⟨tg, iter, ifs, 0⟩) (hk' : gens[k + 1]? = none) (I : Nat → Shared → Prop)
    (turn : ∀ n s, I n s → wpAny (model prog w) A (pyNext it) (fun r s₁ => match r with
      | none => R (.ok .next) s₁
      | some v => wpAny (model prog w) A (letOwnedTupleGo tg it v) (fun _ s₁' => wpAny (model prog w) A (assign tg env v) (fun _ s₂ =>
          wpAny (model prog w) A (forIn ifs true fun c r => if r = true then do let ok ← isTrue c env (eval c env); pure (ForInStep.yield ok) else pure (ForInStep.yield r)) (fun ok s₃ =>
            if ok = true then wpAny (model prog w) A (c.emit acc env) (fun _ s₅ => ∃ m, m < n ∧ I m s₅) (Ne prog w A env R) s₃
            else ∃ m, m < n ∧ I m s₃) (Ne prog w A env R) s₂) (Ne prog w A env R) s₁') (Ne prog w A env R) s₁) (Ne prog w A env R) s)
    (n : Nat) (h : I n s) : codeAny (model prog w) A (.compLoop (c.expr gens scope pos) k it acc env) R s := by
  refine codeAny_loop (by cases c <;> rfl) I (fun n s hI => ?_) n h
  refine den_loop (wpAny_noted ?_)
  rw [turn_last hk hk']
  refine wpAny_bind (wpAny_standAt (wpAny_bind (wpAny_mono (turn n s hI) (fun r s₁ h₁ => ?_) fun _ _ h' => h')))
  cases r with
  | none => exact wpAny_pure h₁
  | some v =>
    refine wpAny_bind (wpAny_mono h₁ (fun _ s₁' h₁' => ?_) fun _ _ h' => h')
    refine wpAny_bind (wpAny_mono h₁' (fun _ s₂ h₂ => wpAny_bind (wpAny_mono h₂ (fun ok s₃ h₃ => ?_) fun _ _ h' => h')) fun _ _ h' => h')
    cases ok with
    | false => exact wpAny_pure ⟨rfl, h₃⟩
    | true => exact wpAny_bind (wpAny_mono h₃ (fun _ s₅ h₅ => wpAny_pure ⟨rfl, h₅⟩) fun _ _ h' => h')
theorem loop_mid (hk : gens[k]? = some ⟨tg, iter, ifs, 0⟩) (hk' : gens[k + 1]? = some ⟨tg1, iter1, ifs1, 0⟩) (hs : ∀ x, foldedSetIterable iter1 env x = pure x) (I : Nat → Shared → Prop)
    (turn : ∀ n s, I n s → wpAny (model prog w) A (pyNext it) (fun r s₁ => match r with
      | none => R (.ok .next) s₁
      | some v => wpAny (model prog w) A (letOwnedTupleGo tg it v) (fun _ s₁' => wpAny (model prog w) A (assign tg env v) (fun _ s₂ =>
          wpAny (model prog w) A (forIn ifs true fun c r => if r = true then do let ok ← isTrue c env (eval c env); pure (ForInStep.yield ok) else pure (ForInStep.yield r)) (fun ok s₃ =>
            if ok = true then wpAny (model prog w) A (eval iter1 env) (fun x s₄ => wpAny (model prog w) A (pyIter x) (fun it1 s₅ =>
              codeAny (model prog w) A (.compStart (c.expr gens scope pos) (k + 1) it1 acc env) (fun r s' => match r with
                | .ok _ => ∃ m, m < n ∧ I m s'
                | .error _ => False) s₅) (Ne prog w A env R) s₄) (Ne prog w A env R) s₃
            else ∃ m, m < n ∧ I m s₃) (Ne prog w A env R) s₂) (Ne prog w A env R) s₁') (Ne prog w A env R) s₁) (Ne prog w A env R) s)
    (n : Nat) (h : I n s) : codeAny (model prog w) A (.compLoop (c.expr gens scope pos) k it acc env) R s := by
  refine codeAny_loop (by cases c <;> rfl) I (fun n s hI => ?_) n h
  refine den_loop (wpAny_noted ?_)
  rw [turn_mid hk hk']
  refine wpAny_bind (wpAny_standAt (wpAny_bind (wpAny_mono (turn n s hI) (fun r s₁ h₁ => ?_) fun _ _ h' => h')))
  cases r with
  | none => exact wpAny_pure h₁
  | some v =>
    refine wpAny_bind (wpAny_mono h₁ (fun _ s₁' h₁' => ?_) fun _ _ h' => h')
    refine wpAny_bind (wpAny_mono h₁' (fun _ s₂ h₂ => wpAny_bind (wpAny_mono h₂ (fun ok s₃ h₃ => ?_) fun _ _ h' => h')) fun _ _ h' => h')
    cases ok with
    | false => exact wpAny_pure ⟨rfl, h₃⟩
    | true =>
      refine wpAny_bind (wpAny_mono h₃ (fun x s₄ h₄ => ?_) fun _ _ h' => h')
      refine wpAny_bind (wpAny_standAt (wpAny_bind (wpAny_of_eq (hs x) (wpAny_bind (wpAny_holding (wpAny_mono h₄ (fun it1 s₅ h₅ => ?_) fun _ _ h' => h'))))))
      refine wpAny_bind (wpAny_runOwn ?_)
      rw [Around.mark_none]
      refine codeAny_mono h₅ fun r s' hr => ?_
      cases r with
      | ok f =>
        first
          | exact wpAny_pure ⟨rfl, hr⟩
          | exact wpAny_bind (wpAny_pure (wpAny_pure ⟨rfl, hr⟩))
      | error e => exact hr.elim
theorem clausesOf_ck : clausesOf (c.expr gens scope pos) = gens := by cases c <;> rfl
theorem start_ck (hk : gens[k]? = some ⟨tg, iter, ifs, 0⟩) (h0 : codeAny (model prog w) A (.compLoop (c.expr gens scope pos) k it acc env) R s)
    (h : wpAny (model prog w) A (pyIter it) (fun it' s' => codeAny (model prog w) A (.compLoop (c.expr gens scope pos) k it' acc env) R s')
      (notedBy (model prog w) A env fun x s' => R (.error x) s') s) :
    codeAny (model prog w) A (.compStart (c.expr gens scope pos) k it acc env) R s := by
  refine codeAny_of_tree ?_
  refine den_start (wpAny_notedAt ?_)
  unfold compStart
  rw [clausesOf_ck, hk]
  show wpAny _ _ (ask >>= _) _ _ s
  refine wpAny_bind (wpAny_askSetting (wpAny_ite ?_))
  split
  · first
      | exact wpAny_bind (wpAny_pure (wpAny_pure (And.intro rfl h0)))
      | exact wpAny_pure (And.intro rfl h0)
  · first
      | exact wpAny_bind (wpAny_rule (wpAny_bind (wpAny_standAt (wpAny_bind (wpAny_mono h (fun it' s' h' => wpAny_pure (And.intro rfl h')) fun _ _ x => x)))))
      | (refine wpAny_bind (wpAny_rule ?_); show wpAny _ _ (standAt iter.pos >>= _) _ _ s; exact wpAny_bind (wpAny_standAt (wpAny_bind (wpAny_mono h (fun it' s' h' => wpAny_pure (And.intro rfl h')) fun _ _ x => x))))
end
end Pv
namespace Pv
open PySem PySem.Spec PyProof.Rows L2

structure Gn where
  it : DenI
  g : DenG
  t : DenT
abbrev EmD (α : Type) := Env → Sto → α → Option (α × Sto)
def gnL {α : Type} (g : DenG) (t : DenT) (body : EmD α) : List D → EmD α
  | [], _, st, acc => some (acc, st)
  | d :: ds, env, st, acc => (g d env st).bind fun p => (t p.1 p.2).bind fun q => (match q.1 with
    | true => body p.1 q.2 acc
    | false => some (acc, q.2)).bind fun r => gnL g t body ds env r.2 r.1
def compL {α : Type} (em : EmD α) : List Gn → EmD α
  | [], env, st, acc => em env st acc
  | G :: Gs, env, st, acc => (G.it env st).bind fun p => gnL G.g G.t (compL em Gs) p.1 env p.2 acc
def tYesD : DenT := fun _ st => some (true, st)
/-- a target that stores its own slots alone -/
def GOk (g : DenG) (own : List Nat) : Prop := ∀ d env st env' st', g d env st = some (env', st') → env'.length = env.length ∧ ∀ i, i ∉ own → env'[i]? = env[i]?
def NoneOn (env : Env) (own : List Nat) : Prop := ∀ i ∈ own, ∀ d, env[i]? ≠ some (some d)
theorem GOk.name {i : Nat} {own : List Nat} (h : i ∈ own) : GOk (gNm i) own := fun d env st env' st' e => by
  cases e
  refine ⟨List.length_set, fun j hj => ?_⟩
  rw [List.getElem?_set_ne]
  rintro rfl
  exact hj h
def GsOk (g : DenGs) (own : List Nat) : Prop := ∀ ds env st env' st', g ds env st = some (env', st') → env'.length = env.length ∧ ∀ i, i ∉ own → env'[i]? = env[i]?
theorem GsOk.nil {own : List Nat} : GsOk gsNil own := fun ds env st env' st' e => by
  unfold gsNil at e
  split at e
  · cases e; exact ⟨rfl, fun _ _ => rfl⟩
  · cases e
theorem GsOk.cons {own : List Nat} {g : DenG} {h : DenGs} (a : GOk g own) (b : GsOk h own) : GsOk (gsCons g h) own := fun ds env st env' st' e => by
  unfold gsCons at e
  split at e
  · cases e
  · obtain ⟨⟨e1, s1⟩, h1, e⟩ := Option.bind_eq_some_iff.mp e
    obtain ⟨q1, q2⟩ := a _ _ _ _ _ h1
    obtain ⟨r1, r2⟩ := b _ _ _ _ _ e
    exact ⟨r1.trans q1, fun i hi => (r2 i hi).trans (q2 i hi)⟩
theorem GOk.tup {n : Nat} {own : List Nat} {g : DenGs} (h : GsOk g own) : GOk (gTup n g) own := fun d env st env' st' e => by
  unfold gTup at e
  split at e
  · split at e
    · exact h _ _ _ _ _ e
    · cases e
  · split at e
    · exact h _ _ _ _ _ e
    · cases e
  · cases e
abbrev DTs (X : Cx) (ifs : List Expr) (t : DenT) : Prop := PTs X ifs (tT X.K X.w t)
theorem PTs.wk {X : Cx} {e : List Expr} {t t' : TT} (h : PTs X e t) (k : ∀ σ H Q, t' σ H Q → t σ H Q) : PTs X e t' := ⟨fun pins s σ H Q I q => h.run pins s σ H Q I (k σ H Q q)⟩
theorem ts_nil {X : Cx} : DTs X [] tYesD := PTs.wk pts_nil fun σ H Q ⟨W, st, env, b, st', E, S, e, k⟩ => by
  cases e
  exact k H W (.refl H W) S
theorem ts_one {X : Cx} {c : Expr} {t : DenT} (h : DT X c t) : DTs X [c] t := pts_one h
/-- the further clauses -/
inductive Cls (Y : Cx) : List Comprehension → List Gn → List (List Nat) → Prop
  | nil : Cls Y [] [] []
  | cons {tg iter : Expr} {ifs : List Expr} {it : DenI} {g : DenG} {t : DenT} {own : List Nat} {rest : List Comprehension} {Gs : List Gn} {owns : List (List Nat)} : DI Y tg iter it → DG Y tg g → DTs Y ifs t → GOk g own → (∀ x, foldedSetIterable iter Y.env x = pure x) → Cls Y rest Gs owns →
      Cls Y (⟨tg, iter, ifs, 0⟩ :: rest) (⟨it, g, t⟩ :: Gs) (own :: owns)
/-- slots apart, clause by clause -/
def Apart : List (List Nat) → Prop
  | [] => True
  | o :: os => (∀ i ∈ o, ∀ p ∈ os, i ∉ p) ∧ Apart os
instance : (os : List (List Nat)) → Decidable (Apart os)
  | [] => isTrue trivial
  | o :: os => by
    have := instDecidableApart os
    unfold Apart
    exact inferInstance
/-- an accumulator -/
structure AccK (α : Type) (K : PySem.W.Frag) (w : World) (p : Addr) where
  ok : Hp → Wd → α → Prop
  mono : ∀ {H W H' W' acc}, W.pi p → (∀ a, some a ∈ W.mu → ¬ W.pi a) → HExt H W H' W' → ok H W acc → ok H' W' acc
/-- the emission in the block -/
def EmOk {α : Type} (Y : Cx) (c : CK) (p : Addr) (k : AccK α Y.K Y.w p) (em : EmD α) : Prop :=
  ∀ (pins : List (Addr × Obj)) (s : Shared) (σ : L2.St) (H : Hp) (W : Wd) (env : Env) (st : Sto) (acc acc' : α) (st' : Sto), Inv Y pins σ H s → W.pi p → EnvR Y.K Y.w H W σ env → StoR Y.K Y.w H W st → k.ok H W acc → em env st acc = some (acc', st') →
    wpAny (model Y.prog Y.w) Y.A (c.emit (.ref p) Y.env) (fun _ s' => ∃ H' W', Inv Y pins σ H' s' ∧ HX p H W H' W' ∧ StoR Y.K Y.w H' W' st' ∧ k.ok H' W' acc') (fun _ _ => False) s
theorem EnvR.sub {K : PySem.W.Frag} {w : World} {H : Hp} {W : Wd} {σ : L2.St} {env env' : Env} {own : List Nat} (E : EnvR K w H W σ env') (hl : env'.length = env.length) (h : ∀ i, i ∉ own → env'[i]? = env[i]?) (hn : NoneOn env own) : EnvR K w H W σ env :=
  ⟨E.len.trans hl, fun i d e => by
    by_cases hi : i ∈ own
    · exact absurd e (hn i hi d)
    · exact E.at_ i d ((h i hi).trans e)⟩
theorem NoneOn.step {env env' : Env} {own o : List Nat} (hn : NoneOn env o) (h : ∀ i, i ∉ own → env'[i]? = env[i]?) (d : ∀ i ∈ own, i ∉ o) : NoneOn env' o := fun i hi x e => by
  have : i ∉ own := fun z => d i z hi
  rw [h i this] at e
  exact hn i hi x e
/-- a loop of a comprehension, from the clause at k on -/
theorem loop_sound {α : Type} {Y : Cx} {c : CK} {p : Addr} {kk : AccK α Y.K Y.w p} {em : EmD α} (hc : Y.calm = true) (hxe : Y.xe = fun _ _ => False) (hem : EmOk Y c p kk em) (gens : List Comprehension) (scope : Scope) (pos : Pos) :
    ∀ (rest : List Comprehension) (Gs : List Gn) (owns : List (List Nat)), Cls Y rest Gs owns → ∀ (k : Nat) (tg iter : Expr) (ifs : List Expr) (g : DenG) (t : DenT) (own : List Nat), gens[k]? = some ⟨tg, iter, ifs, 0⟩ → gens.drop (k + 1) = rest → DG Y tg g → DTs Y ifs t → GOk g own → Apart (own :: owns) →
    ∀ (pins : List (Addr × Obj)) (s : Shared) (σ : L2.St) (H : Hp) (W : Wd) (env : Env) (st : Sto) (ds : List D) (acc acc' : α) (st' : Sto) (it : Addr) (fp : List Addr) (tn : Nat → Heap → Prop) (J : It) (R : Result → Shared → Prop),
      Inv Y pins σ H s → W.pi p → EnvR Y.K Y.w H W σ env → StoR Y.K Y.w H W st → kk.ok H W acc → Turn Y.prog Y.w Y.K tg J fp it tn → tn 0 s.heap → (∀ b ∈ fp, FpOk Y pins H b) → JR Y.K Y.w J ds H W → (∀ o ∈ own :: owns, NoneOn env o) →
      gnL g t (compL em Gs) ds env st acc = some (acc', st') →
      (∀ s' σ' H' W', Inv Y pins σ' H' s' → HX p H W H' W' → StoR Y.K Y.w H' W' st' → EnvR Y.K Y.w H' W' σ' env → kk.ok H' W' acc' → R (.ok .next) s') →
      codeAny (model Y.prog Y.w) Y.A (.compLoop (c.expr gens scope pos) k (.ref it) (.ref p) Y.env) R s := by
  intro rest
  induction rest with
  | nil =>
    intro Gs owns cls k tg iter ifs g t own hk hd hg ht hgo hap pins s σ H W env st ds acc acc' st' it fp tn J R I hp E S ok T st0 f2 jr hno e hR
    cases cls
    have hk' : gens[k + 1]? = none := by
      have q := congrArg List.length hd
      rw [List.length_drop] at q
      exact List.getElem?_eq_none (by simp at q; omega)
    have stat : ∀ {H' : Hp}, (∀ b ∈ fp, H' b = none) → ∀ b ∈ fp, FpOk Y pins H' b := fun hn b hb => ⟨hn b hb, (f2 b hb).2⟩
    refine loop_last hk hk' (fun n s' => ∃ i σ' H' W' st1 acc1, n = ds.length - i ∧ i ≤ ds.length ∧ Inv Y pins σ' H' s' ∧ tn i s'.heap ∧ (∀ b ∈ fp, H' b = none) ∧ HX p H W H' W' ∧ StoR Y.K Y.w H' W' st1 ∧ EnvR Y.K Y.w H' W' σ' env ∧ kk.ok H' W' acc1 ∧ gnL g t (compL em []) (ds.drop i) env st1 acc1 = some (acc', st')) ?_ ds.length
      ⟨0, σ, H, W, st, acc, by simp, Nat.zero_le _, I, st0, fun b hb => (f2 b hb).1, .refl _ _ _, S, E, ok, by simpa using e⟩
    rintro n s5 ⟨i, σ5, H5, W5, st5, acc5, rfl, hi, I5, tn5, n5, x5, S5, E5, ok5, e5⟩
    have hp5 : W5.pi p := x5.piq hp
    by_cases hlt : i < ds.length
    · refine thnF (T.item Y rfl rfl rfl hc i pins s5 σ5 H5 (fun _ _ => False) I5 (stat n5) tn5 (jr.go i H5 W5 (x5.rm hp) hlt)) fun r s6 ⟨u, hr, h6⟩ => ?_
      subst hr
      refine thnF h6 fun _ s7 ⟨x, H7, I7, r7, y7, st7, n7⟩ => ?_
      have I7' := I7.pinned (stat n7) (T.obj _ _ st7)
      rw [List.drop_eq_getElem_cons hlt] at e5
      unfold gnL at e5
      obtain ⟨⟨env8, st8⟩, h8, e6⟩ := Option.bind_eq_some_iff.mp e5
      obtain ⟨⟨b, st9⟩, h9, e7⟩ := Option.bind_eq_some_iff.mp e6
      obtain ⟨⟨acc10, st10⟩, h10, e8⟩ := Option.bind_eq_some_iff.mp e7
      obtain ⟨x7, S7, r7'⟩ := jr.yld i ds[i] H5 W5 x H7 st5 (x5.rm hp) S5 (List.getElem?_eq_getElem hlt) y7
      obtain ⟨gl, go⟩ := hgo _ _ _ _ _ h8
      have ok7 := kk.mono hp5 S5.npi x7 ok5
      have hg' := hg.run _ s7 σ5 H7 x u (fun σ8 H8 => ∃ W8, HExt H7 W5 H8 W8 ∧ StoR Y.K Y.w H8 W8 st8 ∧ EnvR Y.K Y.w H8 W8 σ8 env8) I7' r7 ⟨W5, st5, env, ds[i], env8, st8, E5.mono x7, S7, r7', h8, fun σ' H' W' y S' E' => ⟨W', y, S', E'⟩⟩
      rw [hxe] at hg'
      refine thnF hg' fun _ s8 ⟨σ8, H8, I8, W8, x8, S8, E8⟩ => ?_
      have hp7 : W5.pi p := hp5
      have hp8 : W8.pi p := by rw [x8.pi]; exact hp7
      have ok8 := kk.mono hp7 S7.npi x8 ok7
      have ht' := ht.run _ s8 σ8 H8 (fun b' H9 => ∃ W9, b' = b ∧ HExt H8 W8 H9 W9 ∧ StoR Y.K Y.w H9 W9 st9) I8 ⟨W8, st8, env8, b, st9, E8, S8, h9, fun H' W' y S' => ⟨W', rfl, y, S'⟩⟩
      rw [hxe] at ht'
      refine thnF ht' fun b' s9 ⟨H9, I9, W9, hb, x9, S9⟩ => ?_
      subst hb
      have hp9 : W9.pi p := by rw [x9.pi]; exact hp8
      have ok9 := kk.mono hp8 S8.npi x9 ok8
      have E9 := E8.mono x9
      have x59 : HX p H5 W5 H9 W9 := .of ((x7.trans x8).trans x9)
      have fin : ∀ {s' : Shared} {H' : Hp} {W' : Wd}, Inv Y (pins ++ pinsAt fp s7.heap) σ8 H' s' → HX p H9 W9 H' W' → StoR Y.K Y.w H' W' st10 → kk.ok H' W' acc10 → ∃ m, m < ds.length - i ∧ ∃ i' σ' H' W' st1 acc1, m = ds.length - i' ∧ i' ≤ ds.length ∧ Inv Y pins σ' H' s' ∧ tn i' s'.heap ∧ (∀ b ∈ fp, H' b = none) ∧ HX p H W H' W' ∧ StoR Y.K Y.w H' W' st1 ∧ EnvR Y.K Y.w H' W' σ' env ∧ kk.ok H' W' acc1 ∧ gnL g t (compL em []) (ds.drop i') env st1 acc1 = some (acc', st') := fun {s' H' W'} I' y S' ok' => by
        refine ⟨ds.length - (i + 1), by omega, i + 1, σ8, H', W', st10, acc10, rfl, hlt, I'.unpinned, T.keep _ _ _ st7 fun b hb o e => (I'.pin (b, o) (List.mem_append_right _ (List.mem_append_right _ (mem_pinsAt hb e)))).1, fun b hb => ?_, (x5.trans x59).trans y, S', ?_, ok', e8⟩
        · obtain ⟨o, e, d⟩ := T.obj _ _ st7 b hb
          exact (I'.pin (b, o) (List.mem_append_right _ (List.mem_append_right _ (mem_pinsAt hb e)))).2.1
        · exact (E9.rm (y.rm hp9)).sub gl go (hno own List.mem_cons_self)
      cases b' with
      | false =>
        cases h10
        rw [if_neg Bool.false_ne_true]
        exact fin I9 (.refl _ _ _) S9 ok9
      | true =>
        rw [if_pos rfl]
        refine thnF (hem _ s9 σ8 H9 W9 env8 st9 acc5 acc10 st10 I9 hp9 E9 S9 ok9 h10) fun _ s10 ⟨H10, W10, I10, x10, S10, ok10⟩ => fin I10 x10 S10 ok10
    · have q : i = ds.length := by omega
      subst q
      rw [List.drop_length] at e5
      cases e5
      refine thnF (T.done Y rfl rfl rfl hc _ pins s5 σ5 H5 (fun _ _ => False) I5 (stat n5) tn5 (jr.stop H5 W5 (x5.rm hp))) fun r s6 ⟨hr, I6⟩ => ?_
      subst hr
      exact hR s6 σ5 H5 W5 I6 x5 S5 E5 ok5
  | cons cl rest ih =>
    intro Gs owns cls k tg iter ifs g t own hk hd hg ht hgo hap pins s σ H W env st ds acc acc' st' it fp tn J R I hp E S ok T st0 f2 jr hno e hR
    cases cls with
    | @cons tg1 iter1 ifs1 it1 g1 t1 own1 _ Gs owns hi1 hg1 ht1 hgo1 hf1 cls =>
    have hk' : gens[k + 1]? = some ⟨tg1, iter1, ifs1, 0⟩ := by
      have q := congrArg (fun l => l[0]?) hd
      simpa using q
    have hd' : gens.drop (k + 1 + 1) = rest := by
      rw [← List.drop_drop, hd]; rfl
    have stat : ∀ {H' : Hp}, (∀ b ∈ fp, H' b = none) → ∀ b ∈ fp, FpOk Y pins H' b := fun hn b hb => ⟨hn b hb, (f2 b hb).2⟩
    refine loop_mid hk hk' hf1 (fun n s' => ∃ i σ' H' W' st1 acc1, n = ds.length - i ∧ i ≤ ds.length ∧ Inv Y pins σ' H' s' ∧ tn i s'.heap ∧ (∀ b ∈ fp, H' b = none) ∧ HX p H W H' W' ∧ StoR Y.K Y.w H' W' st1 ∧ EnvR Y.K Y.w H' W' σ' env ∧ kk.ok H' W' acc1 ∧ gnL g t (compL em (⟨it1, g1, t1⟩ :: Gs)) (ds.drop i) env st1 acc1 = some (acc', st')) ?_ ds.length
      ⟨0, σ, H, W, st, acc, by simp, Nat.zero_le _, I, st0, fun b hb => (f2 b hb).1, .refl _ _ _, S, E, ok, by simpa using e⟩
    rintro n s5 ⟨i, σ5, H5, W5, st5, acc5, rfl, hi, I5, tn5, n5, x5, S5, E5, ok5, e5⟩
    have hp5 : W5.pi p := x5.piq hp
    by_cases hlt : i < ds.length
    · refine thnF (T.item Y rfl rfl rfl hc i pins s5 σ5 H5 (fun _ _ => False) I5 (stat n5) tn5 (jr.go i H5 W5 (x5.rm hp) hlt)) fun r s6 ⟨u, hr, h6⟩ => ?_
      subst hr
      refine thnF h6 fun _ s7 ⟨x, H7, I7, r7, y7, st7, n7⟩ => ?_
      have I7' := I7.pinned (stat n7) (T.obj _ _ st7)
      rw [List.drop_eq_getElem_cons hlt] at e5
      unfold gnL at e5
      obtain ⟨⟨env8, st8⟩, h8, e6⟩ := Option.bind_eq_some_iff.mp e5
      obtain ⟨⟨b, st9⟩, h9, e7⟩ := Option.bind_eq_some_iff.mp e6
      obtain ⟨⟨acc10, st10⟩, h10, e8⟩ := Option.bind_eq_some_iff.mp e7
      obtain ⟨x7, S7, r7'⟩ := jr.yld i ds[i] H5 W5 x H7 st5 (x5.rm hp) S5 (List.getElem?_eq_getElem hlt) y7
      obtain ⟨gl, go⟩ := hgo _ _ _ _ _ h8
      have ok7 := kk.mono hp5 S5.npi x7 ok5
      have hg' := hg.run _ s7 σ5 H7 x u (fun σ8 H8 => ∃ W8, HExt H7 W5 H8 W8 ∧ StoR Y.K Y.w H8 W8 st8 ∧ EnvR Y.K Y.w H8 W8 σ8 env8) I7' r7 ⟨W5, st5, env, ds[i], env8, st8, E5.mono x7, S7, r7', h8, fun σ' H' W' y S' E' => ⟨W', y, S', E'⟩⟩
      rw [hxe] at hg'
      refine thnF hg' fun _ s8 ⟨σ8, H8, I8, W8, x8, S8, E8⟩ => ?_
      have hp7 : W5.pi p := hp5
      have hp8 : W8.pi p := by rw [x8.pi]; exact hp7
      have ok8 := kk.mono hp7 S7.npi x8 ok7
      have ht' := ht.run _ s8 σ8 H8 (fun b' H9 => ∃ W9, b' = b ∧ HExt H8 W8 H9 W9 ∧ StoR Y.K Y.w H9 W9 st9) I8 ⟨W8, st8, env8, b, st9, E8, S8, h9, fun H' W' y S' => ⟨W', rfl, y, S'⟩⟩
      rw [hxe] at ht'
      refine thnF ht' fun b' s9 ⟨H9, I9, W9, hb, x9, S9⟩ => ?_
      subst hb
      have hp9 : W9.pi p := by rw [x9.pi]; exact hp8
      have ok9 := kk.mono hp8 S8.npi x9 ok8
      have E9 := E8.mono x9
      have x59 : HX p H5 W5 H9 W9 := .of ((x7.trans x8).trans x9)
      have fin : ∀ {s' : Shared} {σ' : L2.St} {H' : Hp} {W' : Wd}, Inv Y (pins ++ pinsAt fp s7.heap) σ' H' s' → HX p H9 W9 H' W' → StoR Y.K Y.w H' W' st10 → EnvR Y.K Y.w H' W' σ' env8 → kk.ok H' W' acc10 → ∃ m, m < ds.length - i ∧ ∃ i' σ' H' W' st1 acc1, m = ds.length - i' ∧ i' ≤ ds.length ∧ Inv Y pins σ' H' s' ∧ tn i' s'.heap ∧ (∀ b ∈ fp, H' b = none) ∧ HX p H W H' W' ∧ StoR Y.K Y.w H' W' st1 ∧ EnvR Y.K Y.w H' W' σ' env ∧ kk.ok H' W' acc1 ∧ gnL g t (compL em (⟨it1, g1, t1⟩ :: Gs)) (ds.drop i') env st1 acc1 = some (acc', st') := fun {s' σ' H' W'} I' y S' E' ok' => by
        refine ⟨ds.length - (i + 1), by omega, i + 1, σ', H', W', st10, acc10, rfl, hlt, I'.unpinned, T.keep _ _ _ st7 fun b hb o e => (I'.pin (b, o) (List.mem_append_right _ (List.mem_append_right _ (mem_pinsAt hb e)))).1, fun b hb => ?_, (x5.trans x59).trans y, S', ?_, ok', e8⟩
        · obtain ⟨o, e, d⟩ := T.obj _ _ st7 b hb
          exact (I'.pin (b, o) (List.mem_append_right _ (List.mem_append_right _ (mem_pinsAt hb e)))).2.1
        · exact E'.sub gl go (hno own List.mem_cons_self)
      cases b' with
      | false =>
        cases h10
        rw [if_neg Bool.false_ne_true]
        exact fin I9 (.refl _ _ _) S9 E9 ok9
      | true =>
        rw [if_pos rfl]
        have h10 : compL em (⟨it1, g1, t1⟩ :: Gs) env8 st9 acc5 = some (acc10, st10) := h10
        unfold compL at h10
        obtain ⟨⟨ds1, st11⟩, h11, h10⟩ := Option.bind_eq_some_iff.mp h10
        have hno8 : ∀ o ∈ own1 :: owns, NoneOn env8 o := fun o ho => (hno o (List.mem_cons_of_mem _ ho)).step go fun j hj => hap.1 j hj o ho
        have hi' := hi1.run _ s9 σ8 H9 (fun J1 H11 => ∃ W11, HExt H9 W9 H11 W11 ∧ StoR Y.K Y.w H11 W11 st11 ∧ JR Y.K Y.w J1 ds1 H11 W11) I9 ⟨W9, st9, env8, ds1, st11, E9, S9, h11, fun H' W' J' y S' jr' => ⟨W', y, S', jr'⟩⟩
        rw [hxe] at hi'
        refine thnF hi' fun xv s10 h12 => thnF h12 fun itv s11 h13 => ?_
        obtain ⟨it2, fp2, tn2, J2, H11, rfl, I11, T2, st2', f22, W11, x11, S11, jr2⟩ := h13
        have hp11 : W11.pi p := by rw [x11.pi]; exact hp9
        have ok11 := kk.mono hp9 S9.npi x11 ok9
        have E11 := E9.mono x11
        have inner : codeAny (model Y.prog Y.w) Y.A (.compLoop (c.expr gens scope pos) (k + 1) (.ref it2) (.ref p) Y.env) (fun r s' => match r with
                | .ok _ => ∃ m, m < ds.length - i ∧ ∃ i' σ' H' W' st1 acc1, m = ds.length - i' ∧ i' ≤ ds.length ∧ Inv Y pins σ' H' s' ∧ tn i' s'.heap ∧ (∀ b ∈ fp, H' b = none) ∧ HX p H W H' W' ∧ StoR Y.K Y.w H' W' st1 ∧ EnvR Y.K Y.w H' W' σ' env ∧ kk.ok H' W' acc1 ∧ gnL g t (compL em (⟨it1, g1, t1⟩ :: Gs)) (ds.drop i') env st1 acc1 = some (acc', st')
                | .error _ => False) s11 :=
          ih Gs owns cls (k + 1) tg1 iter1 ifs1 g1 t1 own1 hk' hd' hg1 ht1 hgo1 hap.2 _ s11 σ8 H11 W11 env8 st11 ds1 acc5 acc10 st10 it2 fp2 tn2 J2 _ I11 hp11 E11 S11 ok11 T2 st2' f22 jr2 hno8 h10
            fun s' σ' H' W' I' y S' E' ok' => fin I' ((HX.of x11).trans y) S' E' ok'
        exact start_ck hk' inner (T2.self _ 0 _ _ _ st2' inner)
    · have q : i = ds.length := by omega
      subst q
      rw [List.drop_length] at e5
      cases e5
      refine thnF (T.done Y rfl rfl rfl hc _ pins s5 σ5 H5 (fun _ _ => False) I5 (stat n5) tn5 (jr.stop H5 W5 (x5.rm hp))) fun r s6 ⟨hr, I6⟩ => ?_
      subst hr
      exact hR s6 σ5 H5 W5 I6 x5 S5 E5 ok5
end Pv
namespace Pv
open PySem PySem.Spec PyProof.Rows L2

def wipeE (env : Env) : List Nat → Env
  | [] => env
  | v :: vs => (wipeE env vs).set v none
theorem wipeE_length (env : Env) : ∀ vs : List Nat, (wipeE env vs).length = env.length
  | [] => rfl
  | v :: vs => by unfold wipeE; rw [List.length_set, wipeE_length env vs]
theorem wipeE_some {env : Env} {i : Nat} {d : D} : ∀ {vs : List Nat}, (wipeE env vs)[i]? = some (some d) → env[i]? = some (some d) ∧ i ∉ vs
  | [], h => ⟨h, by simp⟩
  | v :: vs, h => by
    unfold wipeE at h
    by_cases hi : v = i
    · subst hi
      by_cases hv : v < (wipeE env vs).length
      · rw [List.getElem?_set_self hv] at h; cases h
      · rw [List.getElem?_eq_none (by simpa using hv)] at h; cases h
    · rw [List.getElem?_set_ne hi] at h
      obtain ⟨h1, h2⟩ := wipeE_some h
      exact ⟨h1, by simp only [List.mem_cons, not_or]; exact ⟨fun e => hi e.symm, h2⟩⟩
theorem EnvR.wipe {K : PySem.W.Frag} {w : World} {H : Hp} {W : Wd} {σ : L2.St} {env : Env} (E : EnvR K w H W σ env) (vs : List Nat) : EnvR K w H W (L2.wipe σ vs) (wipeE env vs) := by
  refine ⟨by rw [wipe_length, wipeE_length]; exact E.len, fun i d e => ?_⟩
  obtain ⟨h1, h2⟩ := wipeE_some e
  obtain ⟨v, h3, r⟩ := E.at_ i d h1
  refine ⟨v, ?_, r⟩
  rw [wipe_out h2]; exact h3
theorem NoneOn.wipe {env : Env} {vs o : List Nat} (h : ∀ i ∈ o, i ∈ vs) : NoneOn (wipeE env vs) o := fun i hi d e => (wipeE_some e).2 (h i hi)


/-- what an accumulator is made into -/
abbrev FinD (α : Type) := α → Sto → D × Sto
structure FinOk {α : Type} (K : PySem.W.Frag) (w : World) (o0 : Addr → HO) (kk : ∀ p, AccK α K w p) (fin : FinD α) : Prop where
  fin : ∀ {p : Addr} {H H' : Hp} {W W' : Wd} {st st' : Sto} {acc : α}, H p = none → StoR K w H W st → HX p (L2.upd H p (o0 p)) (W.prot p) H' W' → StoR K w H' W' st' → (kk p).ok H' W' acc →
    ∃ W'', HExt H W H' W'' ∧ StoR K w H' W'' (fin acc st').2 ∧ Rep K w H' W'' (fin acc st').1 (.ref p)
section
variable {X : Cx}
theorem comp_core {α : Type} {c : CK} {tg iter : Expr} {ifs : List Expr} {rest : List Comprehension} {scope : Scope} {own : List (Str × Nat)} {own0 : List Nat} {owns : List (List Nat)} {pos pos' : Pos} {it0 : DenI} {g : DenG} {t : DenT} {Gs : List Gn} {em : EmD α} {newAcc : Sem Value} {o0 : Addr → HO} {acc0 : α} {fin : FinD α} {use : Option (Value → Sem Unit)} {Qf : Value → Shared → Prop}
    {kk : ∀ p, AccK α X.K X.w p} {pins : List (Addr × Obj)} {s : Shared} {σ : L2.St} {H : Hp} {W : Wd} {env : Env} {st st1 st' : Sto} {ds : List D} {acc' : α}
    (hc : X.calm = true) (hN : X.N.Nodup) (I : Inv X pins σ H s) (hi : DI X tg iter it0) (ok : BlkOk X.N X.env.scope scope own)
    (hnew : ∀ (s : Shared) (σ : L2.St) (H : Hp) (Q E : Value → Shared → Prop), Inv X pins σ H s → (∀ s', Inv X pins σ (L2.upd H s.heap.objs.size (o0 s.heap.objs.size)) s' → (∀ b o, s.heap.get? b = some o → s'.heap.get? b = some o) → Q (.ref s.heap.objs.size) s') → wpAny (model X.prog X.w) X.A newAcc Q E s)
    (hg : ∀ (s : Shared) (H : Hp) (C : Addr) (cl : List (Str × Addr)) (fp : List Addr), DG (X.blk s H scope (compEnvC scope cl C X.env) fp) tg g)
    (ht : ∀ (s : Shared) (H : Hp) (C : Addr) (cl : List (Str × Addr)) (fp : List Addr), DTs (X.blk s H scope (compEnvC scope cl C X.env) fp) ifs t)
    (hcl : ∀ (s : Shared) (H : Hp) (C : Addr) (cl : List (Str × Addr)) (fp : List Addr), Cls (X.blk s H scope (compEnvC scope cl C X.env) fp) rest Gs owns)
    (hem : ∀ (p : Addr) (s : Shared) (H : Hp) (C : Addr) (cl : List (Str × Addr)) (fp : List Addr), EmOk (X.blk s H scope (compEnvC scope cl C X.env) fp) c p (kk p) em)
    (hok0 : ∀ (p : Addr) (H : Hp) (W : Wd), H p = some (o0 p) → (kk p).ok H W acc0) (hfin : FinOk X.K X.w o0 kk fin)
    (hgo : GOk g own0) (hap : Apart (own0 :: owns)) (hsub : ∀ o ∈ own0 :: owns, ∀ i ∈ o, i ∈ own.map (·.2)) (hs : ∀ x, foldedSetIterable iter X.env x = pure x)
    (E : EnvR X.K X.w H W σ env) (S : StoR X.K X.w H W st) (h1 : it0 env st = some (ds, st1)) (h2 : gnL g t (compL em Gs) ds (wipeE env (own.map (·.2))) st1 acc0 = some (acc', st'))
    (hRR : ∀ D C s' m H' W', Inv X pins σ H' s' → HExt H W H' W' → StoR X.K X.w H' W' (fin acc' st').2 → Rep X.K X.w H' W' (fin acc' st').1 (.ref D) → s'.heap.Ns C m → FpOk X pins H' C → compPost (model X.prog X.w) X.A X.xe use Qf (.ref D) C (.ok .next) s') :
    wpAny (model X.prog X.w) X.A (comprehension (c.expr (⟨tg, iter, ifs, 0⟩ :: rest) scope pos) scope X.env pos' newAcc false (eval iter X.env) use) Qf X.xe s := by
  have hfree : ∀ y ∈ scope.names, y.2 = .free → ∃ c, X.env.cells.lookup y.1 = some c := fun y hy e => by
    rcases ok.free y hy e with k | k
    · exact I.ok.has _ (.inl k)
    · exact I.ok.has _ (.inr k)
  refine wpAny_comprehension_free (use := use) clausesOf_ck hs (closure_ok hfree) ok.kind (fun y hy e => by rw [ok.uniq y hy, e])
    (thn (hi.run pins s σ H (fun J H1 => ∃ W1, HExt H W H1 W1 ∧ StoR X.K X.w H1 W1 st1 ∧ JR X.K X.w J ds H1 W1) I ⟨W, st, env, ds, st1, E, S, h1, fun H' W' J x S' jr => ⟨W', x, S', jr⟩⟩) fun xv s1 hx => thn hx fun itv s2 h3 => ?_)
  obtain ⟨it, fp, tn, J, H2, rfl, I2, T, st2, f2, W2, x2, S2, jr⟩ := h3
  refine hnew s2 σ H2 _ _ I2 fun s3 I3 kp3 => newEnv_comp ?_
  generalize hD : s2.heap.objs.size = D at I3 ⊢
  have hDn : H2 D = none := I2.hok.fresh (Nat.le_of_eq hD)
  have sz : ∀ b ∈ fp, b < s2.heap.objs.size := fun b hb => by
    obtain ⟨o, e, _⟩ := T.obj _ _ st2 b hb
    exact Heap.lt_size e
  have f3 : ∀ b ∈ fp, FpOk X pins (L2.upd H2 D (o0 D)) b ∧ b < s3.heap.objs.size := fun b hb => by
    have hlt := sz b hb
    obtain ⟨o, e, _⟩ := T.obj _ _ st2 b hb
    refine ⟨⟨?_, (f2 b hb).2⟩, Heap.lt_size (kp3 _ _ e)⟩
    rw [upd_ne (by rw [← hD]; exact Nat.ne_of_lt hlt)]
    exact (f2 b hb).1
  have st3 : tn 0 s3.heap := T.keep _ _ _ st2 fun b _ o e => kp3 _ _ e
  have I4 := block_start I3 ok hN f3
  have pg := hg s3 (L2.upd H2 D (o0 D)) s3.heap.objs.size (cellsFrom (s3.heap.objs.size + 1) scope.names (cloFrom X.env.cells scope.names [])) fp
  have pt := ht s3 (L2.upd H2 D (o0 D)) s3.heap.objs.size (cellsFrom (s3.heap.objs.size + 1) scope.names (cloFrom X.env.cells scope.names [])) fp
  have pc := hcl s3 (L2.upd H2 D (o0 D)) s3.heap.objs.size (cellsFrom (s3.heap.objs.size + 1) scope.names (cloFrom X.env.cells scope.names [])) fp
  have pe := hem D s3 (L2.upd H2 D (o0 D)) s3.heap.objs.size (cellsFrom (s3.heap.objs.size + 1) scope.names (cloFrom X.env.cells scope.names [])) fp
  show codeAny _ _ (.compStart (c.expr (⟨tg, iter, ifs, 0⟩ :: rest) scope pos) 0 (.ref it) (.ref D) (compEnvC scope (cellsFrom (s3.heap.objs.size + 1) scope.names (cloFrom X.env.cells scope.names [])) s3.heap.objs.size X.env)) (compPost (model X.prog X.w) X.A X.xe use Qf (.ref D) s3.heap.objs.size) { s3 with heap := pushCells (s3.heap.push { cls := .type "dict", data := .dict #[] }) scope.names }
  have nfp : ∀ b ∈ fp, (L2.upd H2 D (o0 D)) b = none := fun b hb => (f3 b hb).1.1
  generalize hce : compEnvC scope (cellsFrom (s3.heap.objs.size + 1) scope.names (cloFrom X.env.cells scope.names [])) s3.heap.objs.size X.env = ce at I4 pg pt pc pe ⊢
  have cL : ce.locals = s3.heap.objs.size := by subst hce; rfl
  have hH3 : L2.upd H2 D (o0 D) D = some (o0 D) := upd_same
  have S3 : StoR X.K X.w (L2.upd H2 D (o0 D)) (W2.prot D) st1 := S2.prot hDn
  have E3 : EnvR X.K X.w (L2.upd H2 D (o0 D)) (W2.prot D) (L2.wipe σ (own.map (·.2))) (wipeE env (own.map (·.2))) := ((E.mono x2).rm (.prot hDn)).wipe _
  have jr3 : JR X.K X.w J ds (L2.upd H2 D (o0 D)) (W2.prot D) := ⟨fun i H5 W5 y hi => jr.go i H5 W5 (.trans (.prot hDn) y) hi, fun H5 W5 y => jr.stop H5 W5 (.trans (.prot hDn) y), fun i d H5 W5 x H6 s6 y S6 hd z => jr.yld i d H5 W5 x H6 s6 (.trans (.prot hDn) y) S6 hd z⟩
  generalize hs4 : ({ s3 with heap := pushCells (s3.heap.push { cls := .type "dict", data := .dict #[] }) scope.names } : Shared) = s4 at I4 ⊢
  have st4 : tn 0 s4.heap := T.keep _ _ _ st3 fun b _ o e => by rw [← hs4]; exact pushCells_keeps _ _ _ _ (Heap.get?_push_of_some _ e)
  have fb : ∀ b ∈ fp, FpOk (X.blk s3 (L2.upd H2 D (o0 D)) scope ce fp) [] (L2.upd H2 D (o0 D)) b := fun b hb =>
    ⟨nfp b hb, (I4.ok.exf b hb).1, I4.ok.exfs b hb, .inl hb, fun x c e => (I4.ok.exf b hb).2 x c e, fun p hp => absurd (show p ∈ ([] : List (Addr × Obj)) ++ [] from hp) (by simp)⟩
  have loop : codeAny (model X.prog X.w) X.A (.compLoop (c.expr (⟨tg, iter, ifs, 0⟩ :: rest) scope pos) 0 (.ref it) (.ref D) ce) (compPost (model X.prog X.w) X.A X.xe use Qf (.ref D) s3.heap.objs.size) s4 := by
    refine loop_sound (Y := X.blk s3 (L2.upd H2 D (o0 D)) scope ce fp) (kk := kk D) hc rfl pe (⟨tg, iter, ifs, 0⟩ :: rest) scope pos rest Gs owns pc 0 tg iter ifs g t own0 rfl rfl pg pt hgo hap [] s4 _ _ (W2.prot D) _ st1 ds acc0 acc' st' it fp tn J _ I4 (.inr rfl) E3 S3 (hok0 D _ _ hH3) T st4 fb jr3 (fun o ho => NoneOn.wipe (hsub o ho)) h2 ?_
    intro s6 σ6 H5 W5 I6 x5 S5 E5 ok5
    have I7 : Inv X pins σ H5 s6 := I3.call' (ch := fp) I6.os I6.base I6.hok I6.bare fun b hb => ⟨(f3 b hb).1.2.2.2.1, (f3 b hb).1.2.1, (f3 b hb).1.2.2.2.2.1, (f3 b hb).1.2.2.2.2.2⟩
    have nC : H5 s3.heap.objs.size = none := by
      have z : H5 ce.locals = none := I6.free
      rw [cL] at z
      exact z
    obtain ⟨m, hn, _⟩ := I6.loc
    have hn : s6.heap.Ns ce.locals m := hn
    rw [cL] at hn
    obtain ⟨W7, y7, S7, r7⟩ := hfin.fin hDn S2 x5 S5 ok5
    exact hRR D s3.heap.objs.size s6 m H5 W7 I7 (x2.trans y7) S7 r7 hn (I3.fpOk (Nat.le_refl _) nC)
  exact start_ck rfl loop (T.self X.A 0 _ _ _ st4 loop)
end
end Pv
namespace Pv
open PySem PySem.Spec PyProof.Rows L2
section
variable {K : PySem.W.Frag} {w : World} {H H' H1 H2 : Hp} {W W' W1 W2 : Wd} {st st' : Sto} {X : Cx}
/-! ### a list is gathered -/
theorem keep_pi {p : Addr} {o : HO} (hp : W.pi p) (n : ∀ a, some a ∈ W.mu → ¬ W.pi a) (x : HExt H W H' W') (h : H p = some o) : H' p = some o := x.keep p o h fun z => n p z hp
def kL (K : PySem.W.Frag) (w : World) (p : Addr) : AccK (List D) K w p where
  ok := fun H W ds => ∃ vs, H p = some (.lst vs) ∧ RepL K w H W ds vs
  mono := fun hp n x ⟨vs, h, l⟩ => ⟨vs, keep_pi hp n x h, RepL.mono x _ _ l⟩
def emL (f : Den) : EmD (List D) := fun env st acc => (f env st).bind fun p => if acc.length < sizeLine then some (acc ++ [p.1], p.2) else none
theorem em_list {Y : Cx} {elt : Expr} {f : Den} {p : Addr} (hxe : Y.xe = fun _ _ => False) (he : DE Y elt f) : EmOk Y (.lc elt) p (kL Y.K Y.w p) (emL f) := fun pins s σ H W env st acc acc' st' I hp E S ⟨vs, hv, l⟩ e => by
  obtain ⟨⟨d, s1⟩, h1, e⟩ := Option.bind_eq_some_iff.mp e
  dsimp only at e
  split at e
  · rename_i hz
    cases e
    have q := he.run pins s σ H (fun v H1 => ∃ W1, HExt H W H1 W1 ∧ StoR Y.K Y.w H1 W1 st' ∧ Rep Y.K Y.w H1 W1 d v) I ⟨W, st, env, d, st', E, S, h1, fun v H1 W1 x1 S1 r1 => ⟨W1, x1, S1, r1⟩⟩
    rw [hxe] at q
    show wpAny _ _ (do let v ← eval elt Y.env; let _ ← call (.builtin "list.append") [.ref p, v]) _ _ s
    refine wpAny_bind (thnF q fun u s1 ⟨x, H1, I1, rx, W1, x1, S1, r1⟩ => ?_)
    have hp1 : W1.pi p := by rw [x1.pi]; exact hp
    have hv1 := keep_pi hp S.npi x1 hv
    have l1 := RepL.mono x1 _ _ l
    refine wpAny_bind (app_ok I1 hv1 (by rw [← l1.length]; exact hz) rx fun s2 I2 => wpAny_pure ?_)
    have y : HX p H1 W1 (L2.upd H1 p (.lst (vs ++ [x]))) W1 := .upd
    exact ⟨_, W1, I2, (HX.of x1).trans y, S1.wpi hp1, vs ++ [x], upd_same, RepL.rm (y.rm hp1) _ _ (l1.append (.cons r1 .nil))⟩
  · cases e
def finL : FinD (List D) := fun acc st => (.lst acc, st)
def finLR : FinD (List D) := fun acc st => (.ref st.length, st ++ [.lst acc])
theorem upd_id {p : Addr} {o : HO} (h : H p = some o) : L2.upd H p o = H := by
  funext b
  by_cases hb : b = p
  · subst hb; rw [upd_same, h]
  · rw [upd_ne hb]
/-- by value -/
theorem fin_val {o0 : HO} {o : HO} {p : Addr} (h : H p = none) (S : StoR K w H W st) (x : HX p (L2.upd H p o0) (W.prot p) H' W') (S' : StoR K w H' W' st') (ho : H' p = some o) :
    HExt H W H' (W'.with W.pi) ∧ StoR K w H' (W'.with W.pi) st' ∧ RM H' W' H' (W'.with W.pi) ∧ ¬ (W'.with W.pi).pr p := by
  have e : W'.pi = (W.prot p).pi := x.pi
  have hp : W'.pi p := by rw [e]; exact .inr rfl
  have hf : ∀ a, W.pi a → W'.pi a := fun a z => by rw [e]; exact .inl z
  have y := HX.around (o' := o) h x
  have z := StoR.let_go (o := o) hp W.pi hf S'
  have r : RM H' W' (L2.upd H' p o) (W'.with W.pi) := RM.let_go hp W.pi hf
  rw [upd_id ho] at y z r
  refine ⟨y, z, r, fun q => ?_⟩
  rcases q with q | q
  · exact S'.npi p q hp
  · obtain ⟨o, e⟩ := S.pih p q
    rw [h] at e; cases e
theorem finL_ok : FinOk K w (fun _ => .lst []) (kL K w) finL := ⟨fun h S x S' ⟨vs, hv, l⟩ => by
  obtain ⟨y, z, r, n⟩ := fin_val h S x S' hv
  exact ⟨_, y, z, .lst n hv (RepL.rm r _ _ l)⟩⟩
/-- .. and followed -/
theorem fin_ref {o0 : HO} {o : HO} {p : Addr} {so : SO} (h : H p = none) (S : StoR K w H W st) (x : HX p (L2.upd H p o0) (W.prot p) H' W') (S' : StoR K w H' W' st') (ho : H' p = some o) (r : ∀ W3, RM H' W' H' W3 → SoR K w H' W3 so p) :
    HExt H W H' ((W'.with W.pi).add p) ∧ StoR K w H' ((W'.with W.pi).add p) (st' ++ [so]) ∧ Rep K w H' ((W'.with W.pi).add p) (.ref st'.length) (.ref p) := by
  have e : W'.pi = (W.prot p).pi := x.pi
  have hp : W'.pi p := by rw [e]; exact .inr rfl
  have hf : ∀ a, W.pi a → W'.pi a := fun a z => by rw [e]; exact .inl z
  have z0 : HExt H W (er p H') (W'.with W.pi) := by
    have x : HExt (er p (L2.upd H p o0)) (W.prot p) (er p H') W' := x
    rw [er_upd, er_free h] at x
    exact ⟨rfl, x.len, x.old, x.new, x.keep, x.held⟩
  have rm : RM H' W' (er p H') (W'.with W.pi) := ⟨Nat.le_refl _, fun _ _ _ e => e, fun a u e n => by
    have hne : a ≠ p := fun z => n (.inr (z ▸ hp))
    refine ⟨by rw [er_ne hne]; exact e, fun z => ?_⟩
    rcases z with z | z
    · exact n (.inl z)
    · exact n (.inr (hf a z))⟩
  have S3 : StoR K w (er p H') (W'.with W.pi) st' := ⟨S'.len, fun n a e => let ⟨so, h1, r⟩ := S'.so n a e; ⟨so, h1, r.rm rm fun o e' => by
      have hne : a ≠ p := fun z => S'.npi a (List.mem_iff_getElem?.mpr ⟨n, e⟩) (z ▸ hp)
      rw [er_ne hne]; exact e'⟩, S'.dead, S'.inj, fun a e z => S'.npi a e (hf a z), fun a z => by
      obtain ⟨o, e⟩ := S'.pih a (hf a z)
      have hne : a ≠ p := fun q => by
        obtain ⟨o, e⟩ := S.pih a z
        rw [q, h] at e; cases e
      exact ⟨o, by rw [er_ne hne]; exact e⟩⟩
  have u3 : L2.upd (er p H') p o = H' := by
    funext b
    by_cases hb : b = p
    · subst hb; rw [upd_same, ho]
    · rw [upd_ne hb, er_ne hb]
  have y : HExt (er p H') (W'.with W.pi) H' ((W'.with W.pi).add p) := by
    have y : HExt (er p H') (W'.with W.pi) (L2.upd (er p H') p o) ((W'.with W.pi).add p) := .alloc er_self
    rw [u3] at y; exact y
  have rmy : RM H' W' H' ((W'.with W.pi).add p) := ⟨Nat.le_trans rm.len y.len, fun n a hn e => y.old n a hn e, fun a u e n => by
    obtain ⟨h1, h2⟩ := rm.pr a u e n
    exact y.pr h1 h2⟩
  refine ⟨z0.trans y, ?_, ?_⟩
  · have q := StoR.alloc (so := so) er_self S3 (o := o) (by rw [u3]; exact r _ rmy)
    rw [u3] at q; exact q
  · have q := rep_new (o := o) S3 er_self
    rw [u3] at q; exact q
theorem finLR_ok : FinOk K w (fun _ => .lst []) (kL K w) finLR := ⟨fun h S x S' ⟨vs, hv, l⟩ => by
  obtain ⟨y, z, r⟩ := fin_ref h S x S' hv (so := .lst _) fun W3 rm => .lst hv (RepL.rm rm _ _ l)
  exact ⟨_, y, z, r⟩⟩
theorem new_list {pins : List (Addr × Obj)} : ∀ (s : Shared) (σ : L2.St) (H : Hp) (Q E : Value → Shared → Prop), Inv X pins σ H s → (∀ s', Inv X pins σ (L2.upd H s.heap.objs.size (.lst [])) s' → (∀ b o, s.heap.get? b = some o → s'.heap.get? b = some o) → Q (.ref s.heap.objs.size) s') → wpAny (model X.prog X.w) X.A (newList []) Q E s := fun s σ H Q E I k => by
  refine wpAny_newObj_type ?_ (by show 0 ≤ sizeLine; decide)
  refine k { s with heap := s.heap.push { cls := .type "list", data := .seq ([] : List Value).toArray } } (I.laid (t' := s.toks) (fun b o e => Heap.get?_push_of_some _ e) (Nat.le_refl _) ⟨Nat.zero_le _, [], 0, .nil, Heap.get?_push_size _ rfl⟩) fun b o e => Heap.get?_push_of_some _ e

/-! ### a dict is gathered, its keys tuples -/
def kD (K : PySem.W.Frag) (w : World) (p : Addr) : AccK (List D × List D) K w p where
  ok := fun H W ds => DOk true ds.1 ds.2 ∧ ∃ kV vV ep, H p = some (dObj p (ds.1.map (hashOf w)) kV vV ep) ∧ RepL K w H W ds.1 kV ∧ RepL K w H W ds.2 vV
  mono := fun hp n x ⟨ok, kV, vV, ep, h, l, m⟩ => ⟨ok, kV, vV, ep, keep_pi hp n x h, RepL.mono x _ _ l, RepL.mono x _ _ m⟩
def emDk (f g : Den) : EmD (List D × List D) := fun env st acc => (f env st).bind fun p => (g env p.2).bind fun q => (tkey p.1).bind fun nk => if acc.1.length < sizeLine then some (dSet acc.1 acc.2 p.1 nk q.1, q.2) else none
theorem em_dict {Y : Cx} {kx vx : Expr} {f g : Den} {p : Addr} (hu : Y.A.units + 9 < cLine) (hxe : Y.xe = fun _ _ => False) (hk : DE Y kx f) (hv : DE Y vx g) : EmOk Y (.dc kx vx) p (kD Y.K Y.w p) (emDk f g) := fun pins s σ H W env st acc acc' st' I hp E S ⟨ok, kV, vV, ep, ho, l, m⟩ e => by
  obtain ⟨⟨d1, s1⟩, h1, e⟩ := Option.bind_eq_some_iff.mp e
  obtain ⟨⟨d2, s2⟩, h2, e⟩ := Option.bind_eq_some_iff.mp e
  obtain ⟨nk, h3, e⟩ := Option.bind_eq_some_iff.mp e
  split at e
  · rename_i hz
    obtain ⟨rfl, rfl⟩ := Prod.mk.inj (Option.some.inj e)
    obtain ⟨t, hkk, hd⟩ := tkey_inv h3
    have q := hk.run pins s σ H (fun v H1 => ∃ W1, HExt H W H1 W1 ∧ StoR Y.K Y.w H1 W1 s1 ∧ Rep Y.K Y.w H1 W1 d1 v) I ⟨W, st, env, d1, s1, E, S, h1, fun v H1 W1 x1 S1 r1 => ⟨W1, x1, S1, r1⟩⟩
    rw [hxe] at q
    refine wpAny_bind (thnF q fun u s3 ⟨x, H1, I1, rx, W1, x1, S1, r1⟩ => ?_)
    have q2 := hv.run pins s3 σ H1 (fun v H2 => ∃ W2, HExt H1 W1 H2 W2 ∧ StoR Y.K Y.w H2 W2 s2 ∧ Rep Y.K Y.w H2 W2 d2 v) I1 ⟨W1, s1, env, d2, s2, E.mono x1, S1, h2, fun v H2 W2 x2 S2 r2 => ⟨W2, x2, S2, r2⟩⟩
    rw [hxe] at q2
    refine wpAny_bind (wpAny_holding (thnF q2 fun u2 s4 ⟨x2', H2, I2, rx2, W2, x2, S2, r2⟩ => ?_))
    have x := x1.trans x2
    have hp2 : W2.pi p := by rw [x.pi]; exact hp
    have ho2 := keep_pi hp S.npi x ho
    have l2 := RepL.mono x _ _ l
    have m2 := RepL.mono x _ _ m
    have r1' := Rep.mono x2 _ _ r1
    obtain ⟨xs, al, dh, ns, hz', _⟩ := dict_raw I2 ho2 ok l2 m2
    obtain ⟨pa, rfl, rfl, is⟩ := key_is I2 r1' rx t hkk hd
    have room : (nestedKind Y.prog Y.w).room Y.A := by show Y.A.units + 8 < cLine; omega
    obtain ⟨kV', vV', al'⟩ := al_set al r1' t hkk hd is.1 r2 rx2
    refine wpAny_bind (wpAny_standAt (wpAny_holding (wpAny_dictSet_heap (hsz := hz') room is dh fun h' dh' sb => ?_)))
    obtain ⟨l3, m3⟩ := al'.ok
    have okn := ok.set (z := d2) t hkk hd
    obtain ⟨ep', oo⟩ := dict_after (H := H2) al' dh' ns (by rw [← l3.length]; exact Nat.le_trans (dSet_length acc.1 acc.2 d1 nk d2) hz)
    obtain ⟨o, es, ep2, hoo, _⟩ := id dh'
    have y : HX p H2 W2 (L2.upd H2 p (dObj p ((dSet acc.1 acc.2 d1 nk d2).1.map (hashOf Y.w)) kV' vV' ep')) W2 := .upd
    exact ⟨_, W2, I2.write (t' := s4.toks + (nestedKind Y.prog Y.w).draws nk) (by rw [ho2]; trivial) (.inl rfl) (fun b u hb q => (sb.2 b hb).trans q) ⟨o, hoo⟩ oo, (HX.of x).trans y, S2.wpi hp2, okn, kV', vV', ep', upd_same, RepL.rm (y.rm hp2) _ _ l3, RepL.rm (y.rm hp2) _ _ m3⟩
  · cases e
def finD : FinD (List D × List D) := fun acc st => (.dct true acc.1 acc.2, st)
def finDR : FinD (List D × List D) := fun acc st => (.ref st.length, st ++ [.dct true acc.1 acc.2])
theorem finD_ok : FinOk K w (fun p => dObj p [] [] [] 0) (kD K w) finD := ⟨fun h S x S' ⟨ok, kV, vV, ep, ho, l, m⟩ => by
  obtain ⟨y, z, r, n⟩ := fin_val h S x S' ho
  exact ⟨_, y, z, .dct n ho ok (RepL.rm r _ _ l) (RepL.rm r _ _ m)⟩⟩
theorem finDR_ok : FinOk K w (fun p => dObj p [] [] [] 0) (kD K w) finDR := ⟨fun h S x S' ⟨ok, kV, vV, ep, ho, l, m⟩ => by
  obtain ⟨y, z, r⟩ := fin_ref h S x S' ho (so := .dct true _ _) fun W3 rm => .dct ho ok (RepL.rm rm _ _ l) (RepL.rm rm _ _ m)
  exact ⟨_, y, z, r⟩⟩
theorem new_dict {pins : List (Addr × Obj)} : ∀ (s : Shared) (σ : L2.St) (H : Hp) (Q E : Value → Shared → Prop), Inv X pins σ H s → (∀ s', Inv X pins σ (L2.upd H s.heap.objs.size (dObj s.heap.objs.size [] [] [] 0)) s' → (∀ b o, s.heap.get? b = some o → s'.heap.get? b = some o) → Q (.ref s.heap.objs.size) s') → wpAny (model X.prog X.w) X.A newDict Q E s := fun s σ H Q E I k => by
  refine wpAny_newObj_type (k _ (empty_ok I) fun b o e => Heap.get?_push_of_some _ e)

/-! ### the comprehension, as a value and as a statement -/
def eComp {α : Type} (it0 : DenI) (g : DenG) (t : DenT) (Gs : List Gn) (own : List Nat) (em : EmD α) (acc0 : α) (fin : FinD α) : Den := fun env st => (it0 env st).bind fun p => (gnL g t (compL em Gs) p.1 (wipeE env own) p.2 acc0).bind fun q => some (fin q.1 q.2)
/-- a kind of comprehension with all that goes with it -/
structure Kd (α : Type) (X : Cx) (c : CK) where
  kk : ∀ p, AccK α X.K X.w p
  o0 : Addr → HO
  acc0 : α
  nw : Sem Value
  ev : ∀ (gens : List Comprehension) (scope : Scope) (pos : Pos) (use : Option (Value → Sem Unit)) (env : PySem.Env), eval (c.expr gens scope pos) env = comprehension (c.expr gens scope pos) scope env (firstIterPos gens pos) nw (firstAsync gens) (firstIter gens env)
  us : ∀ (gens : List Comprehension) (scope : Scope) (pos : Pos) (u : Value → Sem Unit) (env : PySem.Env), evalThenUse (c.expr gens scope pos) env u = (do let _ ← comprehension (c.expr gens scope pos) scope env (firstIterPos gens pos) nw (firstAsync gens) (firstIter gens env) (some u))
  new : ∀ (pins : List (Addr × Obj)) (s : Shared) (σ : L2.St) (H : Hp) (Q E : Value → Shared → Prop), Inv X pins σ H s → (∀ s', Inv X pins σ (L2.upd H s.heap.objs.size (o0 s.heap.objs.size)) s' → (∀ b o, s.heap.get? b = some o → s'.heap.get? b = some o) → Q (.ref s.heap.objs.size) s') → wpAny (model X.prog X.w) X.A nw Q E s
  ok0 : ∀ (p : Addr) (H : Hp) (W : Wd), H p = some (o0 p) → (kk p).ok H W acc0
def kdL (X : Cx) (elt : Expr) : Kd (List D) X (.lc elt) := ⟨kL X.K X.w, fun _ => .lst [], [], newList [], fun _ _ _ _ _ => rfl, fun _ _ _ _ _ => rfl, fun pins => new_list, fun p H W h => ⟨[], h, .nil⟩⟩
def kdD (X : Cx) (kx vx : Expr) : Kd (List D × List D) X (.dc kx vx) := ⟨kD X.K X.w, fun p => dObj p [] [] [] 0, ([], []), newDict, fun _ _ _ _ _ => rfl, fun _ _ _ _ _ => rfl, fun pins => new_dict, fun p H W h => ⟨dok_nil, [], [], 0, h, .nil, .nil⟩⟩
theorem d_comp {α : Type} {c : CK} (kd : Kd α X c) {tg iter : Expr} {ifs : List Expr} {rest : List Comprehension} {scope : Scope} {own : List (Str × Nat)} {own0 : List Nat} {owns : List (List Nat)} {pos : Pos} {it0 : DenI} {g : DenG} {t : DenT} {Gs : List Gn} {em : EmD α} {fin : FinD α}
    (hc : X.calm = true) (hN : X.N.Nodup) (hi : DI X tg iter it0) (ok : BlkOk X.N X.env.scope scope own)
    (hg : ∀ (s : Shared) (H : Hp) (C : Addr) (cl : List (Str × Addr)) (fp : List Addr), DG (X.blk s H scope (compEnvC scope cl C X.env) fp) tg g)
    (ht : ∀ (s : Shared) (H : Hp) (C : Addr) (cl : List (Str × Addr)) (fp : List Addr), DTs (X.blk s H scope (compEnvC scope cl C X.env) fp) ifs t)
    (hcl : ∀ (s : Shared) (H : Hp) (C : Addr) (cl : List (Str × Addr)) (fp : List Addr), Cls (X.blk s H scope (compEnvC scope cl C X.env) fp) rest Gs owns)
    (hem : ∀ (p : Addr) (s : Shared) (H : Hp) (C : Addr) (cl : List (Str × Addr)) (fp : List Addr), EmOk (X.blk s H scope (compEnvC scope cl C X.env) fp) c p (kd.kk p) em)
    (hfin : FinOk X.K X.w kd.o0 kd.kk fin) (hgo : GOk g own0) (hap : Apart (own0 :: owns)) (hsub : ∀ o ∈ own0 :: owns, ∀ i ∈ o, i ∈ own.map (·.2)) (hs : ∀ x, foldedSetIterable iter X.env x = pure x) :
    DE X (c.expr (⟨tg, iter, ifs, 0⟩ :: rest) scope pos) (eComp it0 g t Gs (own.map (·.2)) em kd.acc0 fin) := ⟨fun pins s σ H Q I ⟨W, st, env, d, st', E, S, e, k⟩ => by
  obtain ⟨⟨ds, st1⟩, h1, e⟩ := Option.bind_eq_some_iff.mp e
  obtain ⟨⟨acc, st2⟩, h2, e⟩ := Option.bind_eq_some_iff.mp e
  obtain ⟨rfl, rfl⟩ := Prod.mk.inj (Option.some.inj e)
  rw [kd.ev _ _ _ none]
  refine comp_core (use := none) hc hN I hi ok (kd.new pins) hg ht hcl hem kd.ok0 hfin hgo hap hsub hs E S h1 h2 fun D C s' m H' W' I' x S' r hn f => ⟨m, hn, fun h'' sb => ?_⟩
  obtain ⟨f0, f1, f2, f3, f4, f5⟩ := f
  exact ⟨.ref D, H', I'.turned (t' := s'.toks) (fun b o hb e => (sb.2 b hb).trans e) f0 f1 f3 f4 f5, rfl, k _ _ _ x S' r⟩⟩
theorem s_comp {α : Type} {c : CK} (kd : Kd α X c) {i : Nat} {y : Str} {py : Pos} {tg iter : Expr} {ifs : List Expr} {rest : List Comprehension} {scope : Scope} {own : List (Str × Nat)} {own0 : List Nat} {owns : List (List Nat)} {pos spos : Pos} {it0 : DenI} {g : DenG} {t : DenT} {Gs : List Gn} {em : EmD α} {fin : FinD α}
    (hc : X.calm = true) (hN : X.N.Nodup) (hy : X.N[i]? = some y) (hyl : X.env.scope.names.lookup y = some .local)
    (hsw : swapsWith (c.expr (⟨tg, iter, ifs, 0⟩ :: rest) scope pos) (some (.Name y py)) spos.line X.env = pure true)
    (hi : DI X tg iter it0) (ok : BlkOk X.N X.env.scope scope own)
    (hg : ∀ (s : Shared) (H : Hp) (C : Addr) (cl : List (Str × Addr)) (fp : List Addr), DG (X.blk s H scope (compEnvC scope cl C X.env) fp) tg g)
    (ht : ∀ (s : Shared) (H : Hp) (C : Addr) (cl : List (Str × Addr)) (fp : List Addr), DTs (X.blk s H scope (compEnvC scope cl C X.env) fp) ifs t)
    (hcl : ∀ (s : Shared) (H : Hp) (C : Addr) (cl : List (Str × Addr)) (fp : List Addr), Cls (X.blk s H scope (compEnvC scope cl C X.env) fp) rest Gs owns)
    (hem : ∀ (p : Addr) (s : Shared) (H : Hp) (C : Addr) (cl : List (Str × Addr)) (fp : List Addr), EmOk (X.blk s H scope (compEnvC scope cl C X.env) fp) c p (kd.kk p) em)
    (hfin : FinOk X.K X.w kd.o0 kd.kk fin) (hgo : GOk g own0) (hap : Apart (own0 :: owns)) (hsub : ∀ o ∈ own0 :: owns, ∀ i ∈ o, i ∈ own.map (·.2)) (hs : ∀ x, foldedSetIterable iter X.env x = pure x) :
    DS X (.Assign [.Name y py] (c.expr (⟨tg, iter, ifs, 0⟩ :: rest) scope pos) spos) (sAsg (eComp it0 g t Gs (own.map (·.2)) em kd.acc0 fin) (gNm i)) := ⟨fun pins s σ H D I ⟨W, st, env, fl, env', st', E, S, e, k⟩ => by
  obtain ⟨⟨d, st0⟩, h0, e⟩ := Option.bind_eq_some_iff.mp e
  obtain ⟨⟨ds, st1⟩, h1, h0⟩ := Option.bind_eq_some_iff.mp h0
  obtain ⟨⟨acc, st2⟩, h2, h0⟩ := Option.bind_eq_some_iff.mp h0
  obtain ⟨rfl, rfl⟩ := Prod.mk.inj (Option.some.inj h0)
  have e : some (Fl.nx, env.set i (some (fin acc st2).1), (fin acc st2).2) = some (fl, env', st') := e
  cases e
  rw [exec_Assign_Name_used _ _ _ _ hsw]
  refine wpAny_bind (wpAny_standAt (wpAny_bind ?_))
  rw [kd.us]
  refine wpAny_bind (thn (comp_core (Qf := fun _ s' => SP X pins D .next s') hc hN I hi ok (kd.new pins) hg ht hcl hem kd.ok0 hfin hgo hap hsub hs E S h1 h2 fun L C s' m H' W' I' x S' r hn f => ?_) fun _ s' hq => wpAny_pure (wpAny_pure hq))
  show wpAny _ _ (assign (.Name y py) X.env (.ref L)) _ _ _
  refine wpAny_assign_Name (store_ok2 (v := V.ref L) I' hN hy (.inl hyl) rfl (fun s2 I2 ⟨a, sb, ha⟩ => ?_) (.inr hyl))
  obtain ⟨f0, f1, f2, f3, f4, f5⟩ := f
  have haC : C ≠ a := by
    rcases ha with z | z
    · rw [z]; exact f1
    · exact fun e => f4 y a z e.symm
  refine ⟨m, hn.sameBut sb haC, fun h3 sb3 => ?_⟩
  exact ⟨_, H', I2.turned (t' := s2.toks) (fun b o hb e => (sb3.2 b hb).trans e) f0 f1 f3 f4 f5, k _ _ _ x S' ((E.mono x).set r)⟩⟩
end
end Pv
namespace Pv
open PySem PySem.Spec PyProof.Rows L2

/-! ### the defs -/
abbrev Fn := List D → Sto → Option (D × Sto)
def bodyF (n : Nat) (b : DenS) : Fn := fun args st => (b (args.map some ++ List.replicate (n - args.length) none) st).bind fun r => match r.1 with
  | .nx => some (.non, r.2.2)
  | .rt d => some (d, r.2.2)
  | _ => none
mutual
/-- no refs but those below n -/
def okR (n : Nat) : D → Bool
  | .non => true
  | .bl _ => true
  | .int _ => true
  | .str _ => true
  | .tup ds => okRs n ds
  | .lst ds => okRs n ds
  | .dct _ ks vs => okRs n ks && okRs n vs
  | .set _ _ => false
  | .scr _ => false
  | .ref m => decide (m < n)
def okRs (n : Nat) : List D → Bool
  | [] => true
  | d :: ds => okR n d && okRs n ds
end
def soR (n : Nat) : SO → Bool
  | .lst ds => okRs n ds
  | .dct _ ks vs => okRs n ks && okRs n vs
  | .dead => true
/-- the value of a result behind the store's end -/
def valD (n : Nat) (st : Sto) : D → Option D
  | .ref m => if m < n then some (.ref m) else match st[m]? with
    | some (.lst ds) => if okRs n ds = true then some (.lst ds) else none
    | some (.dct t ks vs) => if okRs n ks = true ∧ okRs n vs = true then some (.dct t ks vs) else none
    | _ => none
  | d => if okR n d = true then some d else none
/-- as if it had its own store -/
def pureF (F : Fn) : Fn := fun args st => if okRs 0 args = true then (F args []).bind fun p => (valD 0 p.2 p.1).map fun d => (d, st) else none
/-- what it laid is let go -/
def truncF (F : Fn) : Fn := fun args st => (F args st).bind fun p => if (p.2.take st.length).all (soR st.length) = true then (valD st.length p.2 p.1).map fun d => (d, p.2.take st.length) else none

section
variable {K : PySem.W.Frag} {w : World} {H H' H1 H2 : Hp} {W W' W1 W2 : Wd} {st st' : Sto} {X : Cx}
def spF (K : PySem.W.Frag) (w : World) (m : Nat) (F : Fn) : Sp := fun vs H Q _ => vs.length = m ∧ ∃ W st ds d st', StoR K w H W st ∧ RepL K w H W ds vs ∧ F ds st = some (d, st') ∧ Kn K w H W st' d Q
theorem env_start {N : List Str} {vs : List V} {ds : List D} (l : RepL K w H W ds vs) : EnvR K w H W (L2.start N vs) (ds.map some ++ List.replicate (N.length - ds.length) none) := by
  unfold L2.start
  refine ⟨by simp [l.length], fun i d e => ?_⟩
  by_cases hi : i < ds.length
  · rw [List.getElem?_append_left (by simpa using hi), List.getElem?_map] at e
    obtain ⟨d', h1, h2⟩ := Option.map_eq_some_iff.mp e
    cases h2
    obtain ⟨v, h3, r⟩ := l.get h1
    refine ⟨v, ?_, r⟩
    rw [List.getElem?_append_left (by rw [List.length_map, ← l.length]; exact hi), List.getElem?_map, h3]; rfl
  · rw [List.getElem?_append_right (by simpa using Nat.le_of_not_lt hi), List.getElem?_replicate] at e
    split at e
    · cases e
    · cases e
theorem body_end {N : List Str} {m : Nat} {b : DenS} {vs : List V} {H : Hp} {Q : VK} {E : XK} (h : spF K w m (bodyF N.length b) vs H Q E) : tS K w b { nx := fun _ H' => Q .non H', rt := Q } (L2.start N vs) H := by
  obtain ⟨hl, W, st, ds, d, st', S, l, e, k⟩ := h
  unfold bodyF at e
  obtain ⟨⟨fl, env', st2⟩, h1, e⟩ := Option.bind_eq_some_iff.mp e
  refine ⟨W, st, _, fl, env', st2, env_start l, S, h1, fun σ' H' W' x S' E' => ?_⟩
  cases fl with
  | nx => cases e; exact k .non H' W' x S' .non
  | rt d => cases e; exact fun v r => k v H' W' x S' r
  | bk => cases e
  | ct => cases e
theorem spF_len {m : Nat} {F : Fn} {vs : List V} {H : Hp} {Q : VK} {E : XK} (h : spF K w m F vs H Q E) : vs.length = m := h.1
theorem spF_imp {m : Nat} {F G : Fn} (hFG : ∀ ds st r, G ds st = some r → F ds st = some r) {vs : List V} {H : Hp} {Q : VK} {E : XK} (h : spF K w m G vs H Q E) : spF K w m F vs H Q E := by
  obtain ⟨hl, W, st, ds, d, st', S, l, e, k⟩ := h
  exact ⟨hl, W, st, ds, d, st', S, l, hFG _ _ _ e, k⟩

/-! ### another look at the same -/
/-- W' protects no more than W, and the refs below n are the same -/
structure Sh (n : Nat) (W W' : Wd) : Prop where
  pr : ∀ a, W'.pr a → W.pr a
  len : n ≤ W'.mu.length
  mu : ∀ m a, m < n → W'.mu[m]? = some (some a) → W.mu[m]? = some (some a)
mutual
theorem Rep.sh {n : Nat} (x : Sh n W W') : ∀ (d : D) (v : V), okR n d = true → Rep K w H W d v → Rep K w H W' d v
  | .non, _, _, r => by cases r; exact .non
  | .bl _, _, _, r => by cases r; exact .bl _
  | .int _, _, _, r => by cases r; exact .int _
  | .str _, _, _, r => by cases r; exact .str _
  | .tup ds, _, h, r => by
    unfold okR at h
    cases r with
    | tup n h1 l => exact .tup (fun z => n (x.pr _ z)) h1 (RepL.sh x ds _ h l)
    | tupK h1 l => exact .tupK h1 (RepL.sh x ds _ h l)
  | .lst ds, _, h, r => by
    unfold okR at h
    cases r with
    | lst n h1 l => exact .lst (fun z => n (x.pr _ z)) h1 (RepL.sh x ds _ h l)
  | .dct t ks vs, _, h, r => by
    unfold okR at h
    obtain ⟨g1, g2⟩ := Bool.and_eq_true_iff.mp h
    cases r with
    | dct n h1 ok l m => exact .dct (fun z => n (x.pr _ z)) h1 ok (RepL.sh x ks _ g1 l) (RepL.sh x vs _ g2 m)
  | .set _ _, _, _, r => by cases r
  | .scr _, _, h, _ => by unfold okR at h; cases h
  | .ref m, v, h, r => by
    unfold okR at h
    have h := of_decide_eq_true h
    cases r with
    | ref h1 hl => exact .ref (fun a e => h1 a (x.mu m a h e)) (Nat.lt_of_lt_of_le h x.len)
theorem RepL.sh {n : Nat} (x : Sh n W W') : ∀ (ds : List D) (vs : List V), okRs n ds = true → RepL K w H W ds vs → RepL K w H W' ds vs
  | [], _, _, r => by cases r; exact .nil
  | d :: ds, _, h, r => by
    unfold okRs at h
    obtain ⟨g1, g2⟩ := Bool.and_eq_true_iff.mp h
    cases r with
    | cons r1 r2 => exact .cons (Rep.sh x d _ g1 r1) (RepL.sh x ds _ g2 r2)
end
/-- a result, its value -/
theorem val_rep {n : Nat} {d d' : D} {v : V} (x : Sh n W W') (S : StoR K w H W st) (hn : ∀ a m, n ≤ m → W.mu[m]? = some (some a) → ¬ W'.pr a) (r : Rep K w H W d v) (h : valD n st d = some d') : Rep K w H W' d' v := by
  have flat : ∀ {d : D}, Rep K w H W d v → (if okR n d = true then some d else none) = some d' → Rep K w H W' d' v := fun {d} r h => by
    split at h
    · cases h; exact Rep.sh x _ _ (by assumption) r
    · cases h
  cases d with
  | ref m =>
    simp only [valD] at h
    split at h
    · rename_i hm
      cases h
      exact Rep.sh x _ _ (by unfold okR; exact decide_eq_true hm) r
    · rename_i hm
      split at h
      · rename_i ds q
        split at h
        · rename_i ho
          cases h
          obtain ⟨a, rfl, ha, s⟩ := r.ref_at S q (by intro z; cases z)
          cases s with
          | lst h1 l => exact .lst (hn a m (Nat.le_of_not_lt hm) ha) h1 (RepL.sh x _ _ ho l)
        · cases h
      · rename_i t ks vs q
        split at h
        · rename_i ho
          cases h
          obtain ⟨a, rfl, ha, s⟩ := r.ref_at S q (by intro z; cases z)
          cases s with
          | dct h1 ok l m' => exact .dct (hn a m (Nat.le_of_not_lt hm) ha) h1 ok (RepL.sh x _ _ ho.1 l) (RepL.sh x _ _ ho.2 m')
        · cases h
      · cases h
  | non => exact flat r h
  | bl _ => exact flat r h
  | int _ => exact flat r h
  | str _ => exact flat r h
  | tup _ => exact flat r h
  | lst _ => exact flat r h
  | dct _ _ _ => exact flat r h
  | set _ _ => exact flat r h
  | scr _ => exact flat r h
theorem nil_get {α : Type} {n : Nat} {z : α} (e : ([] : List α)[n]? = some z) : False := by simp at e
/-- the store that nothing stands in, all else protected -/
def Wd.hid (W : Wd) : Wd := ⟨[], W.pr⟩
theorem spF_pure {m : Nat} {F : Fn} {vs : List V} {H : Hp} {Q : VK} {E : XK} (h : spF K w m (pureF F) vs H Q E) : spF K w m F vs H Q E := by
  obtain ⟨hl, W, st, ds, d, st', S, l, e, k⟩ := h
  unfold pureF at e
  split at e
  · rename_i ho
    obtain ⟨⟨d1, st1⟩, h1, e⟩ := Option.bind_eq_some_iff.mp e
    obtain ⟨d2, h2, e⟩ := Option.map_eq_some_iff.mp e
    cases e
    have hp : ∀ a, W.hid.pr a ↔ W.pr a := fun a => ⟨fun z => z.elim (fun z => absurd z (by unfold Wd.hid; simp)) fun z => z, fun z => .inr z⟩
    have has : ∀ a, W.pr a → ∃ o, H a = some o := fun a z => by
      rcases z with z | z
      · obtain ⟨n, e⟩ := List.mem_iff_getElem?.mp z
        obtain ⟨so, _, r⟩ := S.so n a e
        exact r.has
      · exact S.pih a z
    have S0 : StoR K w H W.hid [] := ⟨rfl, fun n a e => (nil_get e).elim, fun n e => (nil_get e).elim, fun n m a e => (nil_get e).elim, fun a e => absurd (show some a ∈ ([] : List (Option Addr)) from e) List.not_mem_nil, fun a z => has a z⟩
    have l0 : RepL K w H W.hid ds vs := RepL.sh (n := 0) ⟨fun a z => (hp a).mp z, Nat.zero_le _, fun m a h => absurd h (Nat.not_lt_zero m)⟩ _ _ ho l
    refine ⟨hl, W.hid, [], ds, d1, st1, S0, l0, h1, fun v H2 W2 x S2 r2 => ?_⟩
    have kp : ∀ a o, H a = some o → H2 a = some o := fun a o e => x.keep a o e (by unfold Wd.hid; simp)
    have e2 : W2.pi = W.pr := x.pi
    have y : HExt H W H2 W := ⟨rfl, Nat.le_refl _, fun _ _ _ e => e, fun n a h e => (HExt.refl H W).new n a h e, fun a o e _ => kp a o e, fun a o e => ⟨o, kp a o e⟩⟩
    refine k v H2 W y (S.ext y kp) (val_rep (W := W2) (n := 0) ⟨fun a z => .inr (by rw [e2]; exact z), Nat.zero_le _, fun m a h => absurd h (Nat.not_lt_zero m)⟩ S2 (fun a m _ e z => S2.npi a (List.mem_iff_getElem?.mpr ⟨m, e⟩) (by rw [e2]; exact z)) r2 h2)
  · cases e
theorem SoR.sh {n : Nat} (x : Sh n W W') {so : SO} {a : Addr} (h : soR n so = true) (r : SoR K w H W so a) : SoR K w H W' so a := by
  cases r with
  | lst h1 l => exact .lst h1 (RepL.sh x _ _ h l)
  | dct h1 ok l m =>
    obtain ⟨g1, g2⟩ := Bool.and_eq_true_iff.mp h
    exact .dct h1 ok (RepL.sh x _ _ g1 l) (RepL.sh x _ _ g2 m)
theorem spF_trunc {m : Nat} {F : Fn} {vs : List V} {H : Hp} {Q : VK} {E : XK} (h : spF K w m (truncF F) vs H Q E) : spF K w m F vs H Q E := by
  obtain ⟨hl, W, st, ds, d, st', S, l, e, k⟩ := h
  unfold truncF at e
  obtain ⟨⟨d1, st1⟩, h1, e⟩ := Option.bind_eq_some_iff.mp e
  dsimp only at e
  split at e
  · rename_i ho
    obtain ⟨d2, h2, e⟩ := Option.map_eq_some_iff.mp e
    cases e
    refine ⟨hl, W, st, ds, d1, st1, S, l, h1, fun v H2 W2 x S2 r2 => ?_⟩
    have hlen : st.length ≤ W2.mu.length := by rw [← S.len]; exact x.len
    let W3 : Wd := { W2 with mu := W2.mu.take st.length }
    have l3 : W3.mu.length = st.length := by show (W2.mu.take _).length = _; rw [List.length_take]; exact Nat.min_eq_left hlen
    have m3 : ∀ {i : Nat} {z : Option Addr}, W3.mu[i]? = some z → i < st.length ∧ W2.mu[i]? = some z := fun {i z} e => by
      have hi : i < W3.mu.length := (List.getElem?_eq_some_iff.mp e).1
      rw [l3] at hi
      refine ⟨hi, ?_⟩
      have e : (W2.mu.take st.length)[i]? = some z := e
      rw [List.getElem?_take_of_lt hi] at e; exact e
    have mem3 : ∀ {a}, some a ∈ W3.mu → some a ∈ W2.mu := fun h => List.mem_of_mem_take h
    have sh : Sh st.length W2 W3 := ⟨fun a z => z.elim (fun z => .inl (mem3 z)) .inr, by rw [l3]; exact Nat.le_refl _, fun m a h e => (m3 e).2⟩
    have y : HExt H W H2 W3 := ⟨x.pi, by rw [l3, S.len]; exact Nat.le_refl _, fun n a h e => x.old n a h (m3 e).2, fun n a h e => x.new n a h (m3 e).2, x.keep, x.held⟩
    have gt : ∀ {i : Nat} {so : SO}, st1[i]? = some so → i < st.length → (st1.take st.length)[i]? = some so := fun e hi => by rw [List.getElem?_take_of_lt hi]; exact e
    have S3 : StoR K w H2 W3 (st1.take st.length) := by
      refine ⟨by rw [l3, List.length_take, ← S2.len]; exact (Nat.min_eq_left hlen).symm, fun n a e => ?_, fun n e => gt (S2.dead n (m3 e).2) (m3 e).1, fun n m a e1 e2 => S2.inj n m a (m3 e1).2 (m3 e2).2, fun a z => S2.npi a (mem3 z), S2.pih⟩
      obtain ⟨so, g1, g2⟩ := S2.so n a (m3 e).2
      have g3 := gt g1 (m3 e).1
      exact ⟨so, g3, g2.sh sh (List.all_eq_true.mp ho so (List.mem_iff_getElem?.mpr ⟨n, g3⟩))⟩
    refine k v H2 W3 y S3 (val_rep sh S2 (fun a m hm e z => ?_) r2 h2)
    rcases z with z | z
    · obtain ⟨i, z⟩ := List.mem_iff_getElem?.mp z
      obtain ⟨hi, z⟩ := m3 z
      have := S2.inj _ _ _ e z
      omega
    · exact S2.npi a (List.mem_iff_getElem?.mpr ⟨m, e⟩) z
  · cases e

/-! ### calls -/
/-- a def that may be called by its name -/
abbrev CalF (X : Cx) (k : Nat) (x : Str) (m : Nat) (F : Fn) : Prop := C8.Cal X.prog X.w X.K X.mg X.base k x (spF X.K X.w m F) []
def eFn (m : Nat) (F : Fn) (as : List Den) : Den := fun env st => (aAll as env st).bind fun p => if p.1.length = m then F p.1 p.2 else none
theorem d_call {k j m : Nat} {x : Str} {F : Fn} {p pos : Pos} {e : Expr} {es : List Expr} {as : List Den} (c : CalF X k x m F) (hr : Room j X.A) (hk : k ≤ j) (hg : Gl X x) (ha : DA X (e :: es) as)
    (hdb : (x == ("__debug__" : Str)) = false := by decide) (he : starEach (e :: es) X.env = (false, eval e X.env) :: starEach es X.env := by rfl) (hpl : (backTo pos (starEach es X.env)).any (·.1) = false := by rfl) :
    DE X (.Call (.Name x p) (e :: es) [] pos) (eFn m F as) :=
  PE.wk (C8.pe_c c hr hk hg ha hdb he hpl) fun σ H Q ⟨W, st, env, d, st', E, S, e, k⟩ => by
    obtain ⟨⟨ds, s1⟩, h1, e⟩ := Option.bind_eq_some_iff.mp e
    dsimp only at e
    split at e
    · rename_i hm
      refine ⟨W, st, env, ds, s1, E, S, h1, fun vs H1 W1 x1 S1 l1 => ?_⟩
      show spF X.K X.w m F (vs ++ []) H1 Q _
      rw [List.append_nil]
      exact ⟨by rw [← l1.length]; exact hm, W1, s1, ds, d, st', S1, l1, e, k.mono x1⟩
    · cases e
end
end Pv
namespace Pv
open PySem PySem.Spec PyProof.Rows L2
mutual
/-- none, truths, ints, texts and tuples of such -/
def flatD : D → Bool
  | .non => true
  | .bl _ => true
  | .int _ => true
  | .str _ => true
  | .tup ds => flatDs ds
  | .lst _ => false
  | .dct _ _ _ => false
  | .set _ _ => false
  | .scr _ => false
  | .ref _ => false
def flatDs : List D → Bool
  | [] => true
  | d :: ds => flatD d && flatDs ds
end
section
variable {K : PySem.W.Frag} {w : World} {H H' H1 H2 : Hp} {W W' W1 W2 : Wd} {st st' : Sto} {X : Cx}
mutual
theorem Rep.reads {pins : List (Addr × Obj)} {σ : L2.St} {H : Hp} {s : Shared} {W : Wd} (I : Inv X pins σ H s) : ∀ (d : D) (v : V) (u : Value), flatD d = true → Rep X.K X.w H W d v → RelV v u → Reads s.heap u (toPd d) []
  | .non, _, _, _, r, q => by cases r; cases q; exact .none
  | .bl b, _, _, _, r, q => by cases r; cases q; exact .bool b
  | .int i, _, _, _, r, q => by cases r; obtain ⟨t, rfl⟩ := q; exact .int i t
  | .str x, _, _, _, r, q => by cases r; obtain ⟨t, rfl⟩ := q; exact .str x t
  | .tup ds, _, _, h, r, q => by
    unfold flatD at h
    have key : ∀ {a : Addr} {vs : List V}, SqT X.K H a vs → RepL X.K X.w H W ds vs → Reads s.heap (.ref a) (toPd (.tup ds)) [] := fun {a vs} hs l => by
      obtain ⟨its, rv, ⟨o, ho, hc, n, hd⟩, _⟩ := I.tuple hs
      exact .tuple ho hc hd (RepL.reads I ds vs its h l rv)
    cases r with
    | tup _ h1 l => cases q; exact key (.of h1) l
    | tupK h1 l => cases q; exact key (h1 H) l
  | .lst _, _, _, h, _, _ => by unfold flatD at h; cases h
  | .dct _ _ _, _, _, h, _, _ => by unfold flatD at h; cases h
  | .set _ _, _, _, h, _, _ => by unfold flatD at h; cases h
  | .scr _, _, _, h, _, _ => by unfold flatD at h; cases h
  | .ref _, _, _, h, _, _ => by unfold flatD at h; cases h
theorem RepL.reads {pins : List (Addr × Obj)} {σ : L2.St} {H : Hp} {s : Shared} {W : Wd} (I : Inv X pins σ H s) : ∀ (ds : List D) (vs : List V) (us : List Value), flatDs ds = true → RepL X.K X.w H W ds vs → Vals vs us → ReadsAll s.heap us (toPds ds) []
  | [], _, _, _, r, q => by cases r; cases q; exact .nil
  | d :: ds, _, _, h, r, q => by
    unfold flatDs at h
    obtain ⟨h1, h2⟩ := Bool.and_eq_true_iff.mp h
    cases r with
    | cons r1 r2 =>
      cases q with
      | cons q1 q2 => exact .cons (Rep.reads I d _ _ h1 r1 q1) (RepL.reads I ds _ _ h2 r2 q2)
end
/-- a dict's keys as they stand -/
theorem src_raw {prog : Program} {d : Addr} {es : Array DictEntry} {ep : Nat} (lo : (d == sysModules) = false) : PySem.W.KdlSrc prog w "dict" d d es.size (fun i v => ∃ hi : i < es.size, v = es[i].key) (fun h => h.DictRaw d es ep) where
  type := fun _ hm => hm.typeIs
  there := fun _ hm => ⟨let ⟨_, ho, _⟩ := hm; Heap.lt_size ho, let ⟨_, ho, _⟩ := hm; Heap.lt_size ho⟩
  keep := fun _ _ hm hk => hm.at fun o e => hk d (.inl rfl) o e
  notList := by decide
  notTuple := by decide
  hint := fun _ _ _ _ hm hq => PySem.W.kdl_hint_dict hm.typeIs hq
  iter := fun _ s hh hm => ⟨_, _, (fun _ _ hq => wpAny_pyIter_dict_raw lo hm hq), Walks.rawKeys hh _ d (let ⟨_, ho, _⟩ := hm; Nat.ne_of_lt (Heap.lt_size ho)) es ep, ⟨⟨_, Heap.get?_push_size _ rfl, rfl, rfl⟩, hm.at fun o e => Heap.get?_push_of_some _ e⟩⟩

/-! ### sorted -/
def sortC (ds : List D) : Bool := flatDs ds && ((ds.all fun d => match d with | .tup (_ :: _) => true | _ => false) || (ds.all fun d => match d with | .tup _ => false | .non => false | _ => true)) &&
  (ds.all fun d => ds.all fun e => PySem.W.alike (toPd d) (toPd e)) && (ds.all fun d => decide ((toPd d).depth ≤ 60))
def sortD (ds : List D) : List D := ds.mergeSort (PySem.W.dataLe false toPd)
def itemsD : D → Option (List D)
  | .lst ds => some ds
  | .tup ds => some ds
  | .dct true ks _ => some ks
  | _ => none
def gSorted : List D → Option D
  | [x] => (itemsD x).bind fun ds => if sortC ds = true then some (.lst (sortD ds)) else none
  | _ => none
theorem flat_of_mem : ∀ {ds : List D} {d : D}, flatDs ds = true → d ∈ ds → flatD d = true
  | e :: ds, d, h, m => by
    unfold flatDs at h
    obtain ⟨h1, h2⟩ := Bool.and_eq_true_iff.mp h
    rcases List.mem_cons.mp m with rfl | m
    · exact h1
    · exact flat_of_mem h2 m
abbrev RV (X : Cx) (H : Hp) (W : Wd) (u : Value) (d : D) : Prop := ∃ x : V, Rep X.K X.w H W d x ∧ RelV x u
theorem each_of {X : Cx} {P : Value → D → Prop} : ∀ {ds : List D} {vs : List V} {us : List Value}, RepL X.K X.w H W ds vs → Vals vs us → (∀ d v u, d ∈ ds → Rep X.K X.w H W d v → RelV v u → P u d) → PySem.W.EachIs P us ds
  | [], _, _, .nil, .nil, _ => .nil
  | d :: ds, _, _, .cons r l, .cons q t, h => .cons (h d _ _ List.mem_cons_self r q) (each_of l t fun d v u m => h d v u (List.mem_cons_of_mem _ m))
theorem of_each {X : Cx} : ∀ {ds : List D} {us : List Value}, PySem.W.EachIs (RV X H W) us ds → ∃ vs, RepL X.K X.w H W ds vs ∧ Vals vs us
  | [], _, .nil => ⟨[], .nil, .nil⟩
  | d :: ds, _, .cons ⟨x, r, q⟩ t => by
    obtain ⟨vs, l, m⟩ := of_each t
    exact ⟨x :: vs, .cons r l, .cons q m⟩
theorem sorted_core {pins : List (Addr × Obj)} {s : Shared} {σ : L2.St} {H : Hp} {W : Wd} {st : Sto} {ds : List D} {vV : List V} {Q : VK} {a : Addr} (hu : X.A.units + 65 < cLine) (I : Inv X pins σ H s) (S : StoR X.K X.w H W st) (l : RepL X.K X.w H W ds vV) (hz : vV.length ≤ sizeLine)
    (hcol : ∀ (R : List Value → Shared → Prop), (∀ (h' : Heap) (tk : Nat) (us : List Value), (∀ b o, s.heap.get? b = some o → h'.get? b = some o) → Vals vV us → R us { s with heap := h', toks := tk }) → wpAny (model X.prog X.w) X.A.in1 (collect (.ref a)) R X.xe s)
    (ok : sortC ds = true) (k : Kn X.K X.w H W st (.lst (sortD ds)) Q) : wpAny (model X.prog X.w) X.A (call (.builtin "sorted") [.ref a]) (EP X pins σ Q) X.xe s := by
  unfold sortC at ok
  simp only [Bool.and_eq_true] at ok
  obtain ⟨⟨⟨o1, o2⟩, o3⟩, o4⟩ := ok
  refine Calls.call_function_entry PyProof.Rows.kind_sorted PyProof.Rows.plain_sorted PyProof.Rows.entry_sorted (PyProof.Rows.args_sorted1 _) ?_
  unfold Builtin.«sorted»
  refine wpAny_bind (m := checkCount "sorted" 1 1 _) (wpAny_pure ?_)
  refine wpAny_bind (hcol _ fun h' tk us hk rv => ?_)
  have I1 : Inv X pins σ H { s with heap := h', toks := tk } := I.kept hk
  have hul : us.length = vV.length := rv.length.symm
  refine wpAny_bind (wpAny_newList ?_ (by rw [hul]; exact hz))
  have hoL : (h'.push (seqObj "list" us.toArray 0)).get? h'.objs.size = some (seqObj "list" us.toArray 0) := Heap.get?_push_size _ rfl
  show wpAny _ _ _ _ _ { s with heap := h'.push (seqObj "list" us.toArray 0), toks := tk }
  have e1 : PySem.W.EachIs (RV X H W) us ds := each_of l rv fun d v u _ r q => ⟨v, r, q⟩
  have e2 : PySem.W.EachIs (fun v b => ∃ as, Reads (h'.push (seqObj "list" us.toArray 0)) v (toPd b) as ∧ h'.objs.size ∉ as) us ds := each_of l rv fun d v u m r q => ⟨[], PyProof.Rows.Reads.keeps (fun _ _ e => Heap.get?_push_of_some _ e) (Rep.reads I1 d v u (flat_of_mem o1 m) r q), by simp⟩
  have hal : PySem.W.AllAlike (ds.map toPd) := by
    intro d hd d' hd'
    obtain ⟨x, hx, rfl⟩ := List.mem_map.mp hd
    obtain ⟨y, hy, rfl⟩ := List.mem_map.mp hd'
    exact List.all_eq_true.mp (List.all_eq_true.mp o3 x hx) y hy
  have hso : PySem.W.Sortable (ds.map toPd) := by
    rcases Bool.or_eq_true_iff.mp o2 with o2 | o2
    · refine .inl fun d hd => ?_
      obtain ⟨x, hx, rfl⟩ := List.mem_map.mp hd
      have q := List.all_eq_true.mp o2 x hx
      split at q
      · exact ⟨_, _, rfl⟩
      · cases q
    · refine .inr fun d hd => ?_
      obtain ⟨x, hx, rfl⟩ := List.mem_map.mp hd
      have q := List.all_eq_true.mp o2 x hx
      have f := flat_of_mem o1 hx
      cases x with
      | tup _ => cases q
      | non => cases q
      | lst _ => unfold flatD at f; cases f
      | dct _ _ _ => unfold flatD at f; cases f
      | set _ _ => unfold flatD at f; cases f
      | scr _ => unfold flatD at f; cases f
      | ref _ => unfold flatD at f; cases f
      | _ => exact ⟨fun z => by simp [toPd] at z, fun xs z => by simp [toPd] at z⟩
  refine wpAny_bind (wpAny_holding (PySem.W.list_sort_data (s := { s with heap := h'.push (seqObj "list" us.toArray 0), toks := tk }) hoL e1 e2 hal hso (by rw [l.length]; exact hz) (fun b hb => ?_) fun out ho eo => ?_))
  · have q := of_decide_eq_true (List.all_eq_true.mp o4 b hb)
    show X.A.units + 1 + 1 + _ < cLine
    omega
  · obtain ⟨vs', l', rv'⟩ := of_each eo
    obtain ⟨e', he'⟩ := PyProof.Rows.sortedHeap_at (vs := us) (out := out.toArray) hoL
    have hn : H h'.objs.size = none := I1.hok.fresh (Nat.le_refl _)
    have hlen : vs'.length ≤ sizeLine := by rw [← l'.length]; unfold sortD at *; rw [List.length_mergeSort, l.length]; exact hz
    refine wpAny_pure ⟨_, rfl, .ref h'.objs.size, upd H h'.objs.size (.lst vs'), I1.laid (t' := tk) (fun b u e => ?_) (Nat.le_refl _) (show ObjOk X.prog X.w _ _ _ (.lst vs') from ⟨hlen, out, e', rv', he'⟩), rfl, k _ _ W (.upd hn) (S.upd hn) (.lst (S.npr hn) upd_same (RepL.mono (.upd hn) _ _ l'))⟩
    have hb : b < h'.objs.size := Heap.lt_size e
    rw [PyProof.Rows.sortedHeap_old (Nat.ne_of_lt hb) (by rw [size_push']; exact Nat.lt_succ_of_lt hb)]
    exact Heap.get?_push_of_some _ e
theorem vals_raw {P : Program} {h : Heap} {ks vs : List D} {kV vV : List V} {xs : List (NestedKey × Addr × Value)} (al : Al K w H W h ks kV vs vV xs) : Vals kV (xs.map fun x => .ref x.2.1) := by
  induction al with
  | nil => exact .nil
  | cons _ _ _ _ _ _ _ _ ih => exact .cons rfl ih
theorem c_sorted (hc : X.calm = true) (hu : X.A.units + 65 < cLine) : CallR X (.builtin "sorted") (rCall X.K X.w gSorted) := fun pins s σ H xs us Q I r ⟨W, st, ds, z, S, l, e, k⟩ => by
  unfold gSorted at e
  split at e
  · rename_i x hx
    obtain ⟨es, h1, e⟩ := Option.bind_eq_some_iff.mp e
    split at e
    · rename_i ok
      cases e
      obtain ⟨d, v, rfl, rfl, q, hq⟩ := repl1 l hx
      obtain ⟨u, rfl, rx⟩ := vals1 r
      cases x with
      | lst es' =>
        cases h1
        obtain ⟨a, vs, rfl, hs, m⟩ := look_lst S q hq
        cases rx
        obtain ⟨hz, its, n, rv, ho⟩ := I.hok a _ hs
        exact sorted_core hu I S m hz (fun R hR => wpAny_collect_seq a (.inl rfl) ho rfl rfl (fun h' hk => by simpa using hR h' s.toks its hk rv) (by rw [List.size_toArray, ← rv.length]; exact hz)) ok k
      | tup es' =>
        cases h1
        obtain ⟨a, vs, rfl, hs, m⟩ := look_tup q hq
        cases rx
        obtain ⟨its, rv, ⟨o, ho, hcl, n, hd⟩, hz⟩ := I.tuple hs
        exact sorted_core hu I S m hz (fun R hR => wpAny_collect_seq a (.inr rfl) ho hcl hd (fun h' hk => by simpa using hR h' s.toks its hk rv) (by rw [List.size_toArray, ← rv.length]; exact hz)) ok k
      | dct t ks vs =>
        cases t with
        | false => cases h1
        | true =>
          cases h1
          obtain ⟨a, kV, vV, ep, rfl, ha, dok, m1, m2⟩ := look_dct S q hq
          cases rx
          obtain ⟨xs, al, dh, ns, hz, en, raw, hen⟩ := dict_raw I ha dok m1 m2
          have hl : en.size = xs.length := by rw [← Array.length_toList, hen, List.length_map]
          refine sorted_core hu I S m1 (by rw [al.length]; exact hz) (fun R hR => PySem.W.kdu_collect (A := X.A.in1) (src_raw ns) (I.ok.hd hc) raw (by rw [hl]; exact hz) fun h' tk acc hk hacc => ?_) ok k
          refine hR h' tk acc.toList hk ?_
          have e : acc.toList = xs.map fun x => Value.ref x.2.1 := by
            apply List.ext_getElem
            · rw [Array.length_toList, hacc.1, hl, List.length_map]
            · intro i h1 h2
              have h1' : i < acc.size := by simpa using h1
              obtain ⟨hi, hv⟩ := hacc.2 i acc[i] (Array.getElem?_eq_getElem h1')
              have e2 : en.toList[i]? = some (en[i]) := by rw [Array.getElem?_toList]; exact Array.getElem?_eq_getElem hi
              rw [hen, List.getElem?_map] at e2
              obtain ⟨x, e3, e4⟩ := Option.map_eq_some_iff.mp e2
              rw [Array.getElem_toList, hv, ← e4]
              rw [List.getElem_map]
              have : xs[i]'(by simpa using h2) = x := by
                rw [List.getElem?_eq_getElem (by simpa using h2)] at e3; exact Option.some.inj e3
              rw [this]; rfl
          rw [e]
          exact vals_raw (P := X.prog) al
      | _ => cases h1
    · cases e
  · cases e
end
end Pv
namespace Pv
open PySem PySem.Spec PyProof.Rows L2
/-! ### t[::-1], t a tuple -/
theorem adjust_rev (n : Nat) : Builtin.Slice.sliceAdjust none none (-1) (n : Int) = ((n : Int) - 1, -1) := by
  unfold Builtin.Slice.sliceAdjust
  simp
theorem places_rev (n : Nat) : Builtin.Slice.slicePlaces ((n : Int) - 1) (-1) (-1) = n := by
  unfold Builtin.Slice.slicePlaces
  have h1 : ¬ ((-1 : Int) > 0) := by decide
  simp only [h1, if_false]
  have e : ((n : Int) - 1 - -1 - 1) / (- -1) + 1 = n := by
    rw [show (- -1 : Int) = 1 by decide, Int.ediv_one]; omega
  split
  · rw [e]; omega
  · omega
theorem fm_congr {α β : Type} {f g : α → Option β} : ∀ {l : List α}, (∀ a, a ∈ l → f a = g a) → l.filterMap f = l.filterMap g
  | [], _ => rfl
  | a :: l, h => by
    rw [List.filterMap_cons, List.filterMap_cons, h a List.mem_cons_self, fm_congr fun b hb => h b (List.mem_cons_of_mem _ hb)]
section
variable {prog : Program} {w : World} {A : Around} {E : Value → Shared → Prop} {s : Shared}
theorem sliceApplied_rev {sl : Addr} {vs : Value} {n : Nat} {Q : Int × Int × Nat → Shared → Prop} (hs : s.heap.IsSliceOf sl .none .none vs) (ps : IsPart vs (some (-1)))
    (h : Q ((n : Int) - 1, -1, n) s) : wpAny (model prog w) A (Builtin.Slice.sliceApplied (.ref sl) (pure (n : Int))) Q E s := by
  obtain ⟨os, hos, hcs, hds⟩ := id hs
  unfold Builtin.Slice.sliceApplied Builtin.Slice.sliceFields
  refine wpAny_bind (wpAny_bind (wpAny_field hos hds (x := .none) rfl (wpAny_bind (wpAny_field hos hds (x := .none) rfl (wpAny_bind (wpAny_field hos hds (x := vs) rfl (wpAny_pure ?_)))))))
  refine wpAny_bind (HT.slicePart_ ps ?_)
  show wpAny _ _ (if ((-1 : Int) == 0) = true then _ else _) _ _ s
  rw [if_neg (by decide)]
  refine wpAny_bind (HT.slicePart_ .none (wpAny_bind (HT.slicePart_ .none (wpAny_bind (wpAny_pure ?_)))))
  show wpAny _ _ (match Builtin.Slice.sliceAdjust none none (-1) (n : Int) with | (lo, hi) => pure (lo, (-1 : Int), Builtin.Slice.slicePlaces lo hi (-1))) _ _ s
  rw [adjust_rev n]
  show wpAny _ _ (pure ((n : Int) - 1, (-1 : Int), Builtin.Slice.slicePlaces ((n : Int) - 1) (-1) (-1))) _ _ s
  rw [places_rev]
  exact wpAny_pure h
theorem pick_rev (xs : Array Value) : ((List.range xs.size).filterMap fun (m : Nat) => xs[((xs.size : Int) - 1 + (m : Int) * (-1)).toNat]?).toArray = xs.toList.reverse.toArray := by
  have e : (List.range xs.size).filterMap (fun (m : Nat) => xs[((xs.size : Int) - 1 + (m : Int) * (-1)).toNat]?) = ((List.range xs.size).map fun k => xs.size - 1 - k).filterMap (xs[·]?) := by
    rw [List.filterMap_map]
    have ee : (fun (m : Nat) => xs[((xs.size : Int) - 1 + (m : Int) * (-1)).toNat]?) = (fun (k : Nat) => xs[((xs.size : Int) - 1 + (k : Int) * (-1)).toNat]?) := rfl
    refine fm_congr fun k hk => ?_
    have := List.mem_range.mp hk
    have e : ((xs.size : Int) - 1 + (k : Int) * (-1)).toNat = xs.size - 1 - k := by omega
    show xs[_]? = xs[xs.size - 1 - k]?
    rw [e]
  rw [e, PySem.W.krv_range, List.filterMap_reverse, PySem.W.krv_all]
theorem getItem_tuple_rev {t sl : Addr} {items : Array Value} {vs : Value} {Q : Value → Shared → Prop} (ht : IsTup s.heap t items) (hs : s.heap.IsSliceOf sl .none .none vs) (ps : IsPart vs (some (-1)))
    (h : Q (.ref s.heap.objs.size) { s with heap := s.heap.push { cls := .type "tuple", data := .seq items.toList.reverse.toArray } })
    (hsz : items.size ≤ sizeLine) : wpAny (model prog w) A (getItem (.ref t) (.ref sl)) Q E s := by
  have htake : sizeOk (.seq items.toList.reverse.toArray) := by
    show items.toList.reverse.toArray.size ≤ sizeLine
    rw [List.size_toArray, List.length_reverse, Array.length_toList]
    exact hsz
  obtain ⟨os, hos, hcs, hds⟩ := id hs
  have hTs : s.TypeIs (.ref sl) "slice" := ⟨os, hos, hcs⟩
  unfold getItem
  try with_reducible refine wpAny_holding ?_
  first | refine wpAny_bind (wpAny_pure ?_) | skip
  refine wpAny_bind (wpAny_sequenceKey ht.typeIs (by decide) ?_)
  refine wpAny_bind (wpAny_callSpecial?_slot (name := Str.ofString "__getitem__") ht.typeIs PyProof.Rows.slot_tuple_getitem
    (wpAny_call_entry PyProof.Rows.slot_tuple_getitem ht.typeIs entry_tuple_getitem ?_ (args_tuple_getitem _ _)))
  show wpAny _ _ (Builtin.Tuple.tupleItemsOf (.ref t) >>= _) _ _ s
  refine wpAny_bind (tupleItemsOf_ ht ?_)
  refine wpAny_bind (wpAny_typeOf hTs ?_)
  rw [if_pos (by decide)]
  refine wpAny_bind (sliceApplied_rev hs ps ?_)
  show wpAny _ _ (if (((items.size : Int) - 1) == 0 && (-1 : Int) == 1 && items.size == items.size) = true then _ else _) _ _ s
  rw [if_neg (by rw [show ((-1 : Int) == 1) = false by decide, Bool.and_false, Bool.false_and]; exact Bool.false_ne_true), pick_rev]
  first
    | exact wpAny_bind (m := Builtin.Tuple.tupleExact _) (wpAny_newObj_type (wpAny_pure ⟨_, rfl, wpAny_pure h⟩) htake)
    | exact wpAny_bind (m := Builtin.Tuple.tupleExact _) (wpAny_newObj_type (wpAny_bind (wpAny_pure (wpAny_pure ⟨_, rfl, wpAny_pure h⟩))) htake)
    | exact wpAny_bind (wpAny_bind (m := Builtin.Tuple.tupleExact _) (wpAny_newObj_type (wpAny_pure (wpAny_pure ⟨_, rfl, wpAny_pure h⟩)) htake))
    | exact wpAny_bind (wpAny_bind (m := Builtin.Tuple.tupleExact _) (wpAny_newObj_type (wpAny_pure ⟨_, rfl, wpAny_pure h⟩) htake))
end
section
variable {X : Cx}
def tRevT (K : PySem.W.Frag) (te : TE) : TE := fun σ H Q => te σ H fun x H1 => ∃ a xs, x = .ref a ∧ SqT K H1 a xs ∧ ∀ p, H1 p = none → Q (.ref p) (upd H1 p (.tup xs.reverse))
theorem pe_revT {e : Expr} {te : TE} {k : Nat} {p1 p2 p3 pos : Pos} (he : PE X e te) : PE X (.Subscript e (.Slice none none (some (.UnaryOp .USub (.Constant (.int 1) k p1) p2)) p3) pos) (tRevT X.K te) := by
  refine ⟨fun pins s σ H Q I h => ?_⟩
  refine Subscript_ (thn (he.run pins s σ H _ I h) fun v s1 ⟨x, H1, I1, r1, q1⟩ => ?_)
  obtain ⟨a, xs, ex, hx, q⟩ := q1
  subst ex
  cases r1
  have hst : PO X (some (.UnaryOp .USub (.Constant (.int 1) k p1) p2)) (tPart (tUn (rU fun i => .int (-i)) (tC (.int 1)))) := po_some (pe_un un_neg pe_int)
  refine wpAny_Slice ?_
  rw [evalPart_none]
  refine wpAny_pure ?_
  refine wpAny_pure ?_
  refine thn (hst.run pins s1 σ H1 (fun o H4 => o = some (-1) ∧ H4 = H1) I1 ⟨1, rfl, -1, rfl, rfl, rfl⟩) fun vs s4 ⟨o, H4, I4, ps, eo, e4⟩ => ?_
  subst eo e4
  have I5 : Inv X pins σ H4 { s4 with heap := s4.heap.push { cls := .type "slice", data := .fields #[.none, .none, vs] } } := I4.kept (t' := s4.toks) fun b ob q => Heap.get?_push_of_some _ q
  obtain ⟨its, r, ht, hz⟩ := I5.tuple hx
  have hlen := r.length
  show wpAny (model X.prog X.w) X.A (subscriptTail e (.Slice none none (some (.UnaryOp .USub (.Constant (.int 1) k p1) p2)) p3) (.ref a) (.ref s4.heap.objs.size)) (EP X pins σ Q) X.xe { s4 with heap := s4.heap.push { cls := .type "slice", data := .fields #[.none, .none, vs] } }
  refine tail_any (ops := [.ref a, .ref s4.heap.objs.size]) ht.typeIs (PyProof.Rows.slot_tuple_getitem.lookup) ?_ (by with_unfolding_all rfl)
  refine getItem_tuple_rev ht (Heap.IsSliceOf.new _ .none .none vs) ps ?_ (by rw [List.size_toArray]; omega)
  refine ⟨.ref _, _, I5.laid (t' := s4.toks) (o := .tup xs.reverse) (fun b ob q => Heap.get?_push_of_some _ q) (Nat.le_refl _) ?_, rfl, q _ (I5.hok.fresh (Nat.le_refl _))⟩
  exact ⟨by rw [List.length_reverse]; exact hz, _, r.reverse, IsTup.new _ _⟩
def eRev (a : Den) : Den := fun env st => (a env st).bind fun p => match look p.2 p.1 with
  | .lst ds => some (.lst ds.reverse, p.2)
  | .tup ds => some (.tup ds.reverse, p.2)
  | _ => none
theorem PE.or {e : Expr} {t t' : TE} (h : PE X e t) (h' : PE X e t') : PE X e (fun σ H Q => t σ H Q ∨ t' σ H Q) := ⟨fun pins s σ H Q I q => q.elim (h.run pins s σ H Q I) (h'.run pins s σ H Q I)⟩
theorem d_rev {e : Expr} {f : Den} {k : Nat} {p1 p2 p3 pos : Pos} (he : DE X e f) : DE X (.Subscript e (.Slice none none (some (.UnaryOp .USub (.Constant (.int 1) k p1) p2)) p3) pos) (eRev f) :=
  PE.wk (PE.or (d_revL he) (pe_revT he)) fun σ H Q ⟨W, st, env, d, st', E, S, e, k⟩ => by
    obtain ⟨⟨d1, s1⟩, h1, e⟩ := Option.bind_eq_some_iff.mp e
    dsimp only at e
    split at e
    · rename_i ds hd
      refine .inl ⟨W, st, env, d, st', E, S, ?_, k⟩
      unfold eRevL
      rw [h1, Option.bind_some]
      dsimp only
      rw [hd]; exact e
    · rename_i ds hd
      cases e
      refine .inr ⟨W, st, env, d1, st', E, S, h1, fun x H1 W1 x1 S1 r1 => ?_⟩
      obtain ⟨a, vs, rfl, hs, l⟩ := look_tup r1 hd
      exact ⟨a, vs, rfl, hs, kn_tup S1 l.reverse (k.mono x1)⟩
    · cases e
end
end Pv
namespace Pv
open PySem PySem.Spec PyProof.Rows L2
section
variable {K : PySem.W.Frag} {w : World} {H H' H1 H2 : Hp} {W W' W1 W2 : Wd} {st st' : Sto} {X : Cx}
/-! ### one rule for what the kinds of values decide -/
theorem IxR.or {r r' : R2} (h : IxR X r) (h' : IxR X r') : IxR X (fun x y H Q => r x y H Q ∨ r' x y H Q) := fun a b pins s σ H x y v u Q I r1 r2 q hs => q.elim (fun q => h a b pins s σ H x y v u Q I r1 r2 q hs) fun q => h' a b pins s σ H x y v u Q I r1 r2 q hs
def isDct : D → Bool
  | .dct _ _ _ => true
  | _ => false
def gIxA (d k : D) : Option D := if isDct d = true then gIxT d k else gIx d k
theorem ite_or {c : Prop} [Decidable c] {α : Type} {a b : Option α} {z : α} (h : (if c then a else b) = some z) : a = some z ∨ b = some z := by
  by_cases hc : c
  · rw [if_pos hc] at h; exact .inl h
  · rw [if_neg hc] at h; exact .inr h
theorem o_ixA (hu : X.A.units + 65 < cLine) : IxR X (rBin X.K X.w gIxA) :=
  IxR.wk (IxR.or (o_ixT (by omega)) o_ix) fun x y H Q ⟨W, st, d1, d2, z, S, r1, r2, e, k⟩ => (ite_or e).elim (fun e => .inl ⟨W, st, d1, d2, z, S, r1, r2, e, k⟩) fun e => .inr ⟨W, st, d1, d2, z, S, r1, r2, e, k⟩
theorem OpR.wk' {f : Value → Value → Sem Value} {r r' : R2} (h : OpR X f r) (k : ∀ x y H Q, r' x y H Q → r x y H Q) : OpR X f r' := fun pins s σ H x y v u Q I r1 r2 q => h pins s σ H x y v u Q I r1 r2 (k _ _ _ _ q)
def gInA (x y : D) : Option D := if isDct y = true then gInT x y else gIn x y
def gNotInA (x y : D) : Option D := if isDct y = true then gNotInT x y else gNotIn x y
theorem o_inA (hu : X.A.units + 65 < cLine) : OpR X (compareOp .In) (rBin X.K X.w gInA) :=
  OpR.wk' (OpR.or (o_inT (by omega)) (o_in hu)) fun x y H Q ⟨W, st, d1, d2, z, S, r1, r2, e, k⟩ => (ite_or e).elim (fun e => .inl ⟨W, st, d1, d2, z, S, r1, r2, e, k⟩) fun e => .inr ⟨W, st, d1, d2, z, S, r1, r2, e, k⟩
theorem o_notinA (hu : X.A.units + 65 < cLine) : OpR X (compareOp .NotIn) (rBin X.K X.w gNotInA) :=
  OpR.wk' (OpR.or (o_notinT (by omega)) (o_notin hu)) fun x y H Q ⟨W, st, d1, d2, z, S, r1, r2, e, k⟩ => (ite_or e).elim (fun e => .inl ⟨W, st, d1, d2, z, S, r1, r2, e, k⟩) fun e => .inr ⟨W, st, d1, d2, z, S, r1, r2, e, k⟩
theorem PSet.wk' {r r' : TSet} (h : PSet X r) (k : ∀ o i v H Q, r' o i v H Q → r o i v H Q) : PSet X r' := fun pins s σ H o i v ov iv u Q I r1 r2 r3 q => h pins s σ H o i v ov iv u Q I r1 r2 r3 (k _ _ _ _ _ q)
def setA (d1 d2 d3 : D) (st : Sto) : Option Sto := match setL d1 d2 d3 st with
  | some s => some s
  | none => setT d1 d2 d3 st
theorem o_setA (hu : X.A.units + 65 < cLine) : PSet X (rSet X.K X.w setA) :=
  PSet.wk' (PSet.or o_setL (o_setT (by omega))) fun o i v H Q ⟨W, st, d1, d2, d3, st', S, r1, r2, r3, e, k⟩ => by
    unfold setA at e
    split at e
    · rename_i s' h
      cases e
      exact .inl ⟨W, st, d1, d2, d3, _, S, r1, r2, r3, h, k⟩
    · exact .inr ⟨W, st, d1, d2, d3, st', S, r1, r2, r3, e, k⟩
theorem o_eqA (hu : X.A.units + 65 < cLine) : OpR X (compareOp .Eq) (rBin X.K X.w gEq) := o_eq (by omega)
theorem o_neA (hu : X.A.units + 65 < cLine) : OpR X (compareOp .NotEq) (rBin X.K X.w gNe) := o_ne (by omega)
theorem d_dct1RA {a b : Expr} {f g : Den} {pos : Pos} (hu : X.A.units + 65 < cLine) (ha : DE X a f) (hb : DE X b g) : DE X (.Dict [some a] [b] pos) (eDct1R f g) := d_dct1R (by omega) ha hb
theorem room_u {k : Nat} {A : Around} (h : Room k A) : A.units + 65 < cLine := by have := h.un; omega

/-! ### new lists that will be changed -/
def eSlR (a : Den) (lo hi : Option Den) : Den := fun env st => (a env st).bind fun p => (oAt lo env p.2).bind fun q => (oAt hi env q.2).bind fun r => match look r.2 p.1 with
  | .lst ds => some (.ref r.2.length, r.2 ++ [.lst (cutD ds q.1 r.1)])
  | _ => none
theorem d_slR {e : Expr} {lo hi : Option Expr} {f : Den} {l u : Option Den} {p2 pos : Pos} (he : DE X e f) (hl : DO X lo l) (hu : DO X hi u) : DE X (.Subscript e (.Slice lo hi none p2) pos) (eSlR f l u) :=
  PE.wk (pe_slice sl_list he hl hu) fun σ H Q ⟨W, st, env, d, st', E, S, e, k⟩ => by
    obtain ⟨⟨d1, s1⟩, h1, e⟩ := Option.bind_eq_some_iff.mp e
    obtain ⟨⟨i2, s2⟩, h2, e⟩ := Option.bind_eq_some_iff.mp e
    obtain ⟨⟨i3, s3⟩, h3, e⟩ := Option.bind_eq_some_iff.mp e
    refine ⟨W, st, env, d1, s1, E, S, h1, fun x H1 W1 x1 S1 r1 => ?_⟩
    refine ⟨W1, s1, env, i2, s2, E.mono x1, S1, h2, fun H2 W2 x2 S2 => ?_⟩
    refine ⟨W2, s2, env, i3, s3, (E.mono x1).mono x2, S2, h3, fun H3 W3 x3 S3 => ?_⟩
    have k' := k.mono ((x1.trans x2).trans x3)
    have r1' := Rep.mono (x2.trans x3) d1 x r1
    dsimp only at e
    split at e
    · rename_i ds hd
      cases e
      obtain ⟨a, vs, rfl, hs, l⟩ := look_lst S3 r1' hd
      exact ⟨a, vs, rfl, .of hs, kn_lstR S3 (l.cut _ _) k'⟩
    · cases e

/-! ### comprehensions, by their form -/
abbrev CxB (X : Cx) (s : Shared) (H : Hp) (scope : Scope) (C : Addr) (cl : List (Str × Addr)) (fp : List Addr) : Cx := X.blk s H scope (compEnvC scope cl C X.env) fp
theorem d_lc {elt tg iter : Expr} {ifs : List Expr} {rest : List Comprehension} {scope : Scope} {own : List (Str × Nat)} {own0 : List Nat} {owns : List (List Nat)} {pos : Pos} {it0 : DenI} {g : DenG} {t : DenT} {Gs : List Gn} {f : Den} {fin : FinD (List D)}
    (hc : X.calm = true) (hN : X.N.Nodup) (hfin : FinOk X.K X.w (fun _ => .lst []) (kL X.K X.w) fin) (hi : DI X tg iter it0) (ok : blkC X.N X.env.scope scope own = true)
    (hg : ∀ s H C cl fp, DG (CxB X s H scope C cl fp) tg g) (ht : ∀ s H C cl fp, DTs (CxB X s H scope C cl fp) ifs t) (hcl : ∀ s H C cl fp, Cls (CxB X s H scope C cl fp) rest Gs owns)
    (he : ∀ s H C cl fp, DE (CxB X s H scope C cl fp) elt f) (hgo : GOk g own0) (hap : Apart (own0 :: owns) := by decide) (hsub : ∀ o ∈ own0 :: owns, ∀ i ∈ o, i ∈ own.map (·.2) := by decide) (hs : ∀ x, foldedSetIterable iter X.env x = pure x := by intro _; rfl) :
    DE X (.ListComp elt (⟨tg, iter, ifs, 0⟩ :: rest) scope pos) (eComp it0 g t Gs (own.map (·.2)) (emL f) [] fin) :=
  d_comp (kdL X elt) hc hN hi (blkOk_by ok) hg ht hcl (fun p s H C cl fp => em_list rfl (he s H C cl fp)) hfin hgo hap hsub hs
theorem s_lc {i : Nat} {y : Str} {py : Pos} {elt tg iter : Expr} {ifs : List Expr} {rest : List Comprehension} {scope : Scope} {own : List (Str × Nat)} {own0 : List Nat} {owns : List (List Nat)} {pos spos : Pos} {it0 : DenI} {g : DenG} {t : DenT} {Gs : List Gn} {f : Den} {fin : FinD (List D)}
    (hc : X.calm = true) (hN : X.N.Nodup) (hfin : FinOk X.K X.w (fun _ => .lst []) (kL X.K X.w) fin) (hi : DI X tg iter it0) (ok : blkC X.N X.env.scope scope own = true)
    (hg : ∀ s H C cl fp, DG (CxB X s H scope C cl fp) tg g) (ht : ∀ s H C cl fp, DTs (CxB X s H scope C cl fp) ifs t) (hcl : ∀ s H C cl fp, Cls (CxB X s H scope C cl fp) rest Gs owns)
    (he : ∀ s H C cl fp, DE (CxB X s H scope C cl fp) elt f) (hgo : GOk g own0) (hap : Apart (own0 :: owns) := by decide) (hsub : ∀ o ∈ own0 :: owns, ∀ i ∈ o, i ∈ own.map (·.2) := by decide) (hs : ∀ x, foldedSetIterable iter X.env x = pure x := by intro _; rfl)
    (hy : X.N[i]? = some y := by rfl) (hyl : X.env.scope.names.lookup y = some .local := by rfl)
    (hsw : swapsWith (.ListComp elt (⟨tg, iter, ifs, 0⟩ :: rest) scope pos) (some (.Name y py)) spos.line X.env = pure true := by rfl) :
    DS X (.Assign [.Name y py] (.ListComp elt (⟨tg, iter, ifs, 0⟩ :: rest) scope pos) spos) (sAsg (eComp it0 g t Gs (own.map (·.2)) (emL f) [] fin) (gNm i)) :=
  s_comp (kdL X elt) hc hN hy hyl hsw hi (blkOk_by ok) hg ht hcl (fun p s H C cl fp => em_list rfl (he s H C cl fp)) hfin hgo hap hsub hs
theorem d_dc {kx vx tg iter : Expr} {ifs : List Expr} {rest : List Comprehension} {scope : Scope} {own : List (Str × Nat)} {own0 : List Nat} {owns : List (List Nat)} {pos : Pos} {it0 : DenI} {g : DenG} {t : DenT} {Gs : List Gn} {f h : Den} {fin : FinD (List D × List D)}
    (hu : X.A.units + 65 < cLine) (hc : X.calm = true) (hN : X.N.Nodup) (hfin : FinOk X.K X.w (fun p => dObj p [] [] [] 0) (kD X.K X.w) fin) (hi : DI X tg iter it0) (ok : blkC X.N X.env.scope scope own = true)
    (hg : ∀ s H C cl fp, DG (CxB X s H scope C cl fp) tg g) (ht : ∀ s H C cl fp, DTs (CxB X s H scope C cl fp) ifs t) (hcl : ∀ s H C cl fp, Cls (CxB X s H scope C cl fp) rest Gs owns)
    (hk : ∀ s H C cl fp, DE (CxB X s H scope C cl fp) kx f) (hv : ∀ s H C cl fp, DE (CxB X s H scope C cl fp) vx h) (hgo : GOk g own0) (hap : Apart (own0 :: owns) := by decide) (hsub : ∀ o ∈ own0 :: owns, ∀ i ∈ o, i ∈ own.map (·.2) := by decide) (hs : ∀ x, foldedSetIterable iter X.env x = pure x := by intro _; rfl) :
    DE X (.DictComp kx vx (⟨tg, iter, ifs, 0⟩ :: rest) scope pos) (eComp it0 g t Gs (own.map (·.2)) (emDk f h) ([], []) fin) :=
  d_comp (kdD X kx vx) hc hN hi (blkOk_by ok) hg ht hcl (fun p s H C cl fp => em_dict (by show X.A.units + 9 < cLine; omega) rfl (hk s H C cl fp) (hv s H C cl fp)) hfin hgo hap hsub hs
theorem s_dc {i : Nat} {y : Str} {py : Pos} {kx vx tg iter : Expr} {ifs : List Expr} {rest : List Comprehension} {scope : Scope} {own : List (Str × Nat)} {own0 : List Nat} {owns : List (List Nat)} {pos spos : Pos} {it0 : DenI} {g : DenG} {t : DenT} {Gs : List Gn} {f h : Den} {fin : FinD (List D × List D)}
    (hu : X.A.units + 65 < cLine) (hc : X.calm = true) (hN : X.N.Nodup) (hfin : FinOk X.K X.w (fun p => dObj p [] [] [] 0) (kD X.K X.w) fin) (hi : DI X tg iter it0) (ok : blkC X.N X.env.scope scope own = true)
    (hg : ∀ s H C cl fp, DG (CxB X s H scope C cl fp) tg g) (ht : ∀ s H C cl fp, DTs (CxB X s H scope C cl fp) ifs t) (hcl : ∀ s H C cl fp, Cls (CxB X s H scope C cl fp) rest Gs owns)
    (hk : ∀ s H C cl fp, DE (CxB X s H scope C cl fp) kx f) (hv : ∀ s H C cl fp, DE (CxB X s H scope C cl fp) vx h) (hgo : GOk g own0) (hap : Apart (own0 :: owns) := by decide) (hsub : ∀ o ∈ own0 :: owns, ∀ i ∈ o, i ∈ own.map (·.2) := by decide) (hs : ∀ x, foldedSetIterable iter X.env x = pure x := by intro _; rfl)
    (hy : X.N[i]? = some y := by rfl) (hyl : X.env.scope.names.lookup y = some .local := by rfl)
    (hsw : swapsWith (.DictComp kx vx (⟨tg, iter, ifs, 0⟩ :: rest) scope pos) (some (.Name y py)) spos.line X.env = pure true := by rfl) :
    DS X (.Assign [.Name y py] (.DictComp kx vx (⟨tg, iter, ifs, 0⟩ :: rest) scope pos) spos) (sAsg (eComp it0 g t Gs (own.map (·.2)) (emDk f h) ([], []) fin) (gNm i)) :=
  s_comp (kdD X kx vx) hc hN hy hyl hsw hi (blkOk_by ok) hg ht hcl (fun p s H C cl fp => em_dict (by show X.A.units + 9 < cLine; omega) rfl (hk s H C cl fp) (hv s H C cl fp)) hfin hgo hap hsub hs
end
/-! ### built-ins at the boot -/
theorem bt_len : bootBuiltins "len" = some (.builtin "len") := by decide +kernel
theorem bt_abs : bootBuiltins "abs" = some (.builtin "abs") := by decide +kernel
theorem bt_max : bootBuiltins "max" = some (.builtin "max") := by decide +kernel
theorem bt_min : bootBuiltins "min" = some (.builtin "min") := by decide +kernel
theorem bt_sum : bootBuiltins "sum" = some (.builtin "sum") := by decide +kernel
theorem bt_all : bootBuiltins "all" = some (.builtin "all") := by decide +kernel
theorem bt_any : bootBuiltins "any" = some (.builtin "any") := by decide +kernel
theorem bt_sorted : bootBuiltins "sorted" = some (.builtin "sorted") := by decide +kernel
theorem bt_int : bootBuiltins "int" = some (.type "int") := by decide +kernel
theorem bt_bool : bootBuiltins "bool" = some (.type "bool") := by decide +kernel
theorem bt_str : bootBuiltins "str" = some (.type "str") := by decide +kernel
theorem bt_tuple : bootBuiltins "tuple" = some (.type "tuple") := by decide +kernel
theorem bt_list : bootBuiltins "list" = some (.type "list") := by decide +kernel
theorem bt_dict : bootBuiltins "dict" = some (.type "dict") := by decide +kernel

/-! ### a def by its body -/
theorem fn_body {P : Program} {w : World} {K : PySem.W.Frag} {mg : Str → Option Value} {base : Heap} {x qual : Str} {params : Arguments} {body : List Stmt} {scope : Scope} {dvs : List V} {kws : List (Str × V)} {f : Addr} {fd : FuncData} {N ps : List Str} {k m : Nat} {b : DenS}
    (F : FunD K x qual params body scope dvs kws f fd) (S : FnScope N ps scope) (hm : ps.length = m)
    (h : ∀ (cdv : Value) (A : Around) (outer : List PySem.Env) (s : Shared) (H : Hp) (E : XK), Room k (A.deeper (envOfC qual scope s.heap.objs.size f cdv)) → DSs (cxOf C8.CX0 P w K mg base N qual scope f cdv A outer s H E).nox body b) :
    FnOk P w K mg base C8.CX0 (k + 1) f fd ps (spF K w m (bodyF N.length b)) :=
  F.ok S (fun vs H Q E h => by rw [h.1, hm]) fun cdv A outer s H vs Q E hr hsp => ⟨_, PSs.nox (h cdv A outer s H E hr), body_end hsp⟩
theorem fn_none {P : Program} {w : World} {K : PySem.W.Frag} {mg : Str → Option Value} {base : Heap} {f : Addr} {fd : FuncData} {ps : List Str} {k m : Nat} (h : ps.length = m) : FnOk P w K mg base C8.CX0 k f fd ps (spF K w m fun _ _ => none) :=
  ⟨fun vs H Q E h' => h'.1.trans h.symm, fun A outer s H args us vs Q E hr e0 hb hv h => by
    obtain ⟨_, _, _, _, _, _, _, _, e, _⟩ := h
    cases e⟩
abbrev fuel : Nat := 1048576
theorem fn_cal {P : Program} {w : World} {K : PySem.W.Frag} {mg : Str → Option Value} {base : Heap} {x : Str} {f : Addr} {fd : FuncData} {ps : List Str} {k m : Nat} {F : Fn} (h : FnOk P w K mg base C8.CX0 k f fd ps (spF K w m F)) (hm : mg x = some (.ref f)) (kp : PySem.W.keepIn K (.ref f) = true) (b : Binds K fd ps []) :
    C8.Cal P w K mg base k x (spF K w m F) [] := ⟨f, fd, ps, [], h, hm, kp, b, .nil⟩
theorem cal_imp {P : Program} {w : World} {K : PySem.W.Frag} {mg : Str → Option Value} {base : Heap} {x : Str} {k m : Nat} {F G : Fn} (c : C8.Cal P w K mg base k x (spF K w m F) []) (h : ∀ ds st r, G ds st = some r → F ds st = some r) : C8.Cal P w K mg base k x (spF K w m G) [] := by
  obtain ⟨f, fd, ps, ds, F', a, b, c, d⟩ := c.ex
  exact ⟨f, fd, ps, ds, F'.imp fun vs H Q E q => spF_imp h q, a, b, c, d⟩
theorem cal_pure {P : Program} {w : World} {K : PySem.W.Frag} {mg : Str → Option Value} {base : Heap} {x : Str} {k m : Nat} {F : Fn} (c : C8.Cal P w K mg base k x (spF K w m F) []) : C8.Cal P w K mg base k x (spF K w m (pureF F)) [] := by
  obtain ⟨f, fd, ps, ds, F', a, b, c, d⟩ := c.ex
  exact ⟨f, fd, ps, ds, F'.imp fun vs H Q E q => spF_pure q, a, b, c, d⟩
theorem cal_trunc {P : Program} {w : World} {K : PySem.W.Frag} {mg : Str → Option Value} {base : Heap} {x : Str} {k m : Nat} {F : Fn} (c : C8.Cal P w K mg base k x (spF K w m F) []) : C8.Cal P w K mg base k x (spF K w m (truncF F)) [] := by
  obtain ⟨f, fd, ps, ds, F', a, b, c, d⟩ := c.ex
  exact ⟨f, fd, ps, ds, F'.imp fun vs H Q E q => spF_trunc q, a, b, c, d⟩
/-! ### the end -/
theorem only_free {H : Hp} (hO : Only H) {a : Addr} : H a = none ∨ ∃ o xs, H a = some (.frz o (.lst xs)) := hO a
theorem script_rep {K : PySem.W.Frag} {w : World} {H : Hp} {a : Addr} {ns : List Int} (hO : Only H) (hS : SqL K H a (ns.map V.int)) : Rep K w H ⟨[], fun _ => False⟩ (.scr (ns.map D.int)) (.ref a) := by
  have l : RepL K w H ⟨[], fun _ => False⟩ (ns.map D.int) (ns.map V.int) := by
    induction ns with
    | nil => exact .nil
    | cons n ns ih => exact .cons (.int n) (by
        clear ih hS
        induction ns with
        | nil => exact .nil
        | cons m ns ih => exact .cons (.int m) ih)
  have npr : ¬ Wd.pr ⟨[], fun _ => False⟩ a := fun z => z.elim (fun z => absurd z List.not_mem_nil) fun z => z
  rcases hS with (h | ⟨o, h⟩) | h
  · rcases hO a with q | ⟨o, xs, q⟩ <;> (rw [q] at h; cases h)
  · exact .scr npr h l
  · exact .scrK (fun H' => .inr h) l
theorem law_end {K : PySem.W.Frag} {w : World} {F : Fn} {H : Hp} {a : Addr} {ns : List Int} (hO : Only H) (hS : SqL K H a (ns.map V.int)) (h : ∃ st', F [.scr (ns.map D.int)] [] = some (.bl true, st')) : spF K w 1 F [.ref a] H (fun v _ => v = .bl true) fun _ _ _ => False := by
  obtain ⟨st', h⟩ := h
  refine ⟨rfl, ⟨[], fun _ => False⟩, [], [.scr (ns.map D.int)], .bl true, st', ⟨rfl, fun n a e => (nil_get e).elim, fun n e => (nil_get e).elim, fun n m a e => (nil_get e).elim, fun a e => absurd e List.not_mem_nil, fun a z => z.elim⟩, .cons (script_rep hO hS) .nil, h, fun v H' W' x S' r => ?_⟩
  cases r
  rfl
end Pv
namespace Pv
open PySem PySem.Spec PyProof.Rows L2
/-! ### values -/
section
variable {st : Sto}
theorem lk_non : look st .non = .non := rfl
theorem lk_bl {b : Bool} : look st (.bl b) = .bl b := rfl
theorem lk_int {i : Int} : look st (.int i) = .int i := rfl
theorem lk_str {x : Str} : look st (.str x) = .str x := rfl
theorem lk_tup {ds : List D} : look st (.tup ds) = .tup ds := rfl
theorem lk_lst {ds : List D} : look st (.lst ds) = .lst ds := rfl
theorem lk_dct {t : Bool} {ks vs : List D} : look st (.dct t ks vs) = .dct t ks vs := rfl
theorem lk_scr {ds : List D} : look st (.scr ds) = .scr ds := rfl
theorem lk_ref {n : Nat} : look st (.ref n) = match st[n]? with
  | some (.lst ds) => .lst ds
  | some (.dct t ks vs) => .dct t ks vs
  | _ => .ref n := rfl
theorem lk_pd {d : D} (h : isPd d = true) : look st d = d := by cases d <;> first | rfl | (unfold isPd at h; cases h)
end
mutual
theorem okR_pd {n : Nat} : ∀ {d : D}, isPd d = true → okR n d = true
  | .non, _ => rfl
  | .bl _, _ => rfl
  | .int _, _ => rfl
  | .str _, _ => rfl
  | .tup ds, h => by unfold isPd at h; unfold okR; exact okRs_pd h
  | .lst ds, h => by unfold isPd at h; unfold okR; exact okRs_pd h
  | .scr _, h => by unfold isPd at h; cases h
  | .dct _ _ _, h => by unfold isPd at h; cases h
  | .set _ _, h => by unfold isPd at h; cases h
  | .ref _, h => by unfold isPd at h; cases h
theorem okRs_pd {n : Nat} : ∀ {ds : List D}, isPds ds = true → okRs n ds = true
  | [], _ => rfl
  | d :: ds, h => by
    unfold isPds at h
    obtain ⟨h1, h2⟩ := Bool.and_eq_true_iff.mp h
    unfold okRs
    rw [okR_pd h1, okRs_pd h2]; rfl
end
theorem kit_int_int : kitB "int" "int" = some true := by decide +kernel
theorem kit_bool_int : kitB "bool" "int" = some true := by decide +kernel
theorem kit_str_int : kitB "str" "int" = some false := by decide +kernel
theorem kit_none_int : kitB "NoneType" "int" = some false := by decide +kernel
theorem kit_tuple_int : kitB "tuple" "int" = some false := by decide +kernel
theorem kit_list_int : kitB "list" "int" = some false := by decide +kernel
theorem kit_int_bool : kitB "int" "bool" = some false := by decide +kernel
theorem kit_bool_bool : kitB "bool" "bool" = some true := by decide +kernel
theorem kit_str_bool : kitB "str" "bool" = some false := by decide +kernel
theorem kit_none_bool : kitB "NoneType" "bool" = some false := by decide +kernel
theorem kit_tuple_bool : kitB "tuple" "bool" = some false := by decide +kernel
theorem kit_list_bool : kitB "list" "bool" = some false := by decide +kernel
theorem kit_int_tuple : kitB "int" "tuple" = some false := by decide +kernel
theorem kit_bool_tuple : kitB "bool" "tuple" = some false := by decide +kernel
theorem kit_str_tuple : kitB "str" "tuple" = some false := by decide +kernel
theorem kit_none_tuple : kitB "NoneType" "tuple" = some false := by decide +kernel
theorem kit_tuple_tuple : kitB "tuple" "tuple" = some true := by decide +kernel
theorem kit_list_tuple : kitB "list" "tuple" = some false := by decide +kernel
def isI : D → Bool
  | .int _ => true
  | _ => false
def isIB : D → Bool
  | .int _ => true
  | .bl _ => true
  | _ => false
def isB : D → Bool
  | .bl _ => true
  | _ => false
theorem isi_int {st : Sto} {d : D} (h : isPd d = true) : ((tyD (look st d)).bind fun t => kitB t "int") = some (isIB d) := by
  cases d with
  | non => exact kit_none_int
  | bl b => exact kit_bool_int
  | int i => exact kit_int_int
  | str x => exact kit_str_int
  | tup ds => exact kit_tuple_int
  | lst ds => exact kit_list_int
  | _ => unfold isPd at h; cases h
theorem isi_bool {st : Sto} {d : D} (h : isPd d = true) : ((tyD (look st d)).bind fun t => kitB t "bool") = some (isB d) := by
  cases d with
  | non => exact kit_none_bool
  | bl b => exact kit_bool_bool
  | int i => exact kit_int_bool
  | str x => exact kit_str_bool
  | tup ds => exact kit_tuple_bool
  | lst ds => exact kit_list_bool
  | _ => unfold isPd at h; cases h
theorem isi_tuple {st : Sto} {d : D} (h : isPd d = true) : ((tyD (look st d)).bind fun t => kitB t "tuple") = some (isTup d) := by
  cases d with
  | non => exact kit_none_tuple
  | bl b => exact kit_bool_tuple
  | int i => exact kit_int_tuple
  | str x => exact kit_str_tuple
  | tup ds => exact kit_tuple_tuple
  | lst ds => exact kit_list_tuple
  | _ => unfold isPd at h; cases h
theorem isi_assoc {T : String} {a : Den} {env : Env} {st : Sto} : eIsi T a env st = (a env st).bind fun p => ((tyD (look p.2 p.1)).bind fun t => kitB t T).bind fun b => some (.bl b, p.2) := by
  unfold eIsi
  congr 1
  funext p
  rw [Option.bind_assoc]
/-! ### plain laws: a reading run step by step, what is to follow named -/
def okO {α : Type} (o : Option α) (Q : α → Prop) : Prop := match o with
  | some a => Q a
  | none => False
def okE (f : Den) (env : Env) (st : Sto) (Q : D → Sto → Prop) : Prop := okO (f env st) fun p => Q p.1 p.2
def okT (f : DenT) (env : Env) (st : Sto) (Q : Bool → Sto → Prop) : Prop := okO (f env st) fun p => Q p.1 p.2
def okA (as : List Den) (env : Env) (st : Sto) (Q : List D → Sto → Prop) : Prop := okO (aAll as env st) fun p => Q p.1 p.2
def okP (a : Option Den) (env : Env) (st : Sto) (Q : Option Int → Sto → Prop) : Prop := okO (oAt a env st) fun p => Q p.1 p.2
def okS (f : DenS) (env : Env) (st : Sto) (Q : Fl → Env → Sto → Prop) : Prop := okO (f env st) fun p => Q p.1 p.2.1 p.2.2
def okG (g : DenG) (d : D) (env : Env) (st : Sto) (Q : Env → Sto → Prop) : Prop := okO (g d env st) fun p => Q p.1 p.2
def okGs (g : DenGs) (ds : List D) (env : Env) (st : Sto) (Q : Env → Sto → Prop) : Prop := okO (g ds env st) fun p => Q p.1 p.2
def okI (f : DenI) (env : Env) (st : Sto) (Q : List D → Sto → Prop) : Prop := okO (f env st) fun p => Q p.1 p.2
def okF (F : Fn) (ds : List D) (st : Sto) (Q : D → Sto → Prop) : Prop := okO (F ds st) fun p => Q p.1 p.2
section
variable {α β : Type} {Q R : α → Prop} {P : β → Prop}
theorem okO_some {a : α} : okO (some a) Q = Q a := rfl
theorem okO_none : okO (none : Option α) Q = False := rfl
theorem okO_bind {o : Option α} {f : α → Option β} : okO (o.bind f) P = okO o fun a => okO (f a) P := by cases o <;> rfl
theorem okO_map {o : Option α} {f : α → β} : okO (o.map f) P = okO o fun a => P (f a) := by cases o <;> rfl
theorem okO_ite {c : Prop} [Decidable c] {a b : Option α} : okO (if c then a else b) Q = if c then okO a Q else okO b Q := by
  by_cases h : c
  · rw [if_pos h, if_pos h]
  · rw [if_neg h, if_neg h]
theorem okO_iff {o : Option α} : okO o Q ↔ ∃ a, o = some a ∧ Q a := by
  cases o with
  | none => exact ⟨False.elim, fun ⟨_, e, _⟩ => by cases e⟩
  | some a => exact ⟨fun h => ⟨a, rfl, h⟩, fun ⟨b, e, h⟩ => by cases e; exact h⟩
theorem okO.imp {o : Option α} (h : okO o Q) (k : ∀ a, Q a → R a) : okO o R := by
  cases o with
  | none => exact h
  | some a => exact k a h
theorem okO.of {o : Option α} {a : α} (e : o = some a) (q : Q a) : okO o Q := by rw [e]; exact q
end
theorem okF.of {F : Fn} {ds : List D} {st st' : Sto} {d : D} {Q : D → Sto → Prop} (e : F ds st = some (d, st')) (q : Q d st') : okF F ds st Q := okO.of e q
theorem okF_eq {F : Fn} {ds : List D} {st st' : Sto} {d : D} {Q : D → Sto → Prop} (e : F ds st = some (d, st')) : okF F ds st Q = Q d st' := by unfold okF; rw [e]; rfl
section
variable {a b c : Den} {env : Env} {st : Sto} {Q : D → Sto → Prop} {as : List Den} {g g' : D → D → Option D} {T : Bool → Sto → Prop} {t u : DenT} {L : List D → Sto → Prop}
def kRet (s : Sto) (Q : D → Sto → Prop) : D → Prop := fun z => Q z s
theorem k_ret {s : Sto} {z : D} : kRet s Q z = Q z s := rfl
theorem ev_var {i : Nat} : okE (eVar i) env st Q = okO ((env[i]?).bind id) (kRet st Q) := by
  unfold okE eVar
  cases env[i]? with
  | none => rfl
  | some o => cases o <;> rfl
theorem ev_c {d : D} : okE (eC d) env st Q = Q d st := rfl
def kTup (Q : D → Sto → Prop) : List D → Sto → Prop := fun ds s => Q (.tup ds) s
theorem k_tup {ds : List D} {s : Sto} : kTup Q ds s = Q (.tup ds) s := rfl
def kLst (Q : D → Sto → Prop) : List D → Sto → Prop := fun ds s => Q (.lst ds) s
theorem k_lst {ds : List D} {s : Sto} : kLst Q ds s = Q (.lst ds) s := rfl
def kLstR (Q : D → Sto → Prop) : List D → Sto → Prop := fun ds s => Q (.ref s.length) (s ++ [.lst ds])
theorem k_lstR {ds : List D} {s : Sto} : kLstR Q ds s = Q (.ref s.length) (s ++ [.lst ds]) := rfl
theorem ev_tup : okE (eTup as) env st Q = okA as env st (kTup Q) := by unfold okE okA eTup; rw [okO_bind]; rfl
theorem ev_lst : okE (eLst as) env st Q = okA as env st (kLst Q) := by unfold okE okA eLst; rw [okO_bind]; rfl
theorem ev_lstR : okE (eLstR as) env st Q = okA as env st (kLstR Q) := by unfold okE okA eLstR; rw [okO_bind]; rfl
def kA1 (as : List Den) (env : Env) (L : List D → Sto → Prop) : D → Sto → Prop := fun d s => okA as env s fun ds s => L (d :: ds) s
def kA2 (d : D) (L : List D → Sto → Prop) : List D → Sto → Prop := fun ds s => L (d :: ds) s
theorem k_a1 {d : D} {s : Sto} : kA1 as env L d s = okA as env s (kA2 d L) := rfl
theorem k_a2 {d : D} {ds : List D} {s : Sto} : kA2 d L ds s = L (d :: ds) s := rfl
theorem ev_nil : okA [] env st L = L [] st := rfl
theorem ev_cons : okA (a :: as) env st L = okE a env st (kA1 as env L) := by
  unfold okA okE aAll
  rw [okO_bind]
  unfold kA1 okA
  cases a env st with
  | none => rfl
  | some p => simp only [okO_some, okO_bind]
def kBin1 (g : D → D → Option D) (b : Den) (env : Env) (Q : D → Sto → Prop) : D → Sto → Prop := fun d s => okE b env s fun e s => okO (g (look s d) (look s e)) (kRet s Q)
def kBin2 (g : D → D → Option D) (d : D) (Q : D → Sto → Prop) : D → Sto → Prop := fun e s => okO (g (look s d) (look s e)) (kRet s Q)
theorem k_bin1 {d : D} {s : Sto} : kBin1 g b env Q d s = okE b env s (kBin2 g d Q) := rfl
theorem k_bin2 {d e : D} {s : Sto} : kBin2 g d Q e s = okO (g (look s d) (look s e)) (kRet s Q) := rfl
theorem ev_bin : okE (eBin g a b) env st Q = okE a env st (kBin1 g b env Q) := by
  unfold okE eBin kBin1 okE
  rw [okO_bind]
  cases a env st with
  | none => rfl
  | some p =>
    simp only [okO_some, okO_bind]
    cases b env p.2 with
    | none => rfl
    | some q => simp only [okO_some, okO_bind]; rfl
def kUn (g : D → Option D) (Q : D → Sto → Prop) : D → Sto → Prop := fun d s => okO (g (look s d)) (kRet s Q)
theorem k_un {g : D → Option D} {d : D} {s : Sto} : kUn g Q d s = okO (g (look s d)) (kRet s Q) := rfl
theorem ev_un {g : D → Option D} : okE (eUn g a) env st Q = okE a env st (kUn g Q) := by
  unfold okE eUn kUn
  rw [okO_bind]
  cases a env st with
  | none => rfl
  | some p => simp only [okO_some, okO_bind]; rfl
def kCall (g : List D → Option D) (Q : D → Sto → Prop) : List D → Sto → Prop := fun ds s => okO (g (ds.map (look s))) (kRet s Q)
theorem k_call {g : List D → Option D} {ds : List D} {s : Sto} : kCall g Q ds s = okO (g (ds.map (look s))) (kRet s Q) := rfl
theorem ev_call {g : List D → Option D} : okE (eCall g as) env st Q = okA as env st (kCall g Q) := by
  unfold okE eCall okA kCall
  rw [okO_bind]
  cases aAll as env st with
  | none => rfl
  | some p => simp only [okO_some, okO_bind]; rfl
def kRetR (s : Sto) (Q : D → Sto → Prop) : D → Prop := fun z => match z with
  | .lst ds => Q (.ref s.length) (s ++ [.lst ds])
  | _ => False
theorem k_retR {s : Sto} {ds : List D} : kRetR s Q (.lst ds) = Q (.ref s.length) (s ++ [.lst ds]) := rfl
def kCallR (g : List D → Option D) (Q : D → Sto → Prop) : List D → Sto → Prop := fun ds s => okO (g (ds.map (look s))) (kRetR s Q)
theorem k_callR {g : List D → Option D} {ds : List D} {s : Sto} : kCallR g Q ds s = okO (g (ds.map (look s))) (kRetR s Q) := rfl
theorem ev_callR {g : List D → Option D} : okE (eCallR g as) env st Q = okA as env st (kCallR g Q) := by
  unfold okE eCallR okA kCallR
  rw [okO_bind]
  cases aAll as env st with
  | none => rfl
  | some p =>
    simp only [okO_some]
    cases g (p.1.map (look p.2)) with
    | none => rfl
    | some z => cases z <;> rfl
def kFn (m : Nat) (F : Fn) (Q : D → Sto → Prop) : List D → Sto → Prop := fun ds s => if ds.length = m then okF F ds s Q else False
theorem k_fn {m : Nat} {F : Fn} {ds : List D} {s : Sto} (h : ds.length = m) : kFn m F Q ds s = okF F ds s Q := if_pos h
theorem k_fn1 {F : Fn} {d : D} {s : Sto} : kFn 1 F Q [d] s = okF F [d] s Q := rfl
theorem k_fn2 {F : Fn} {d e : D} {s : Sto} : kFn 2 F Q [d, e] s = okF F [d, e] s Q := rfl
theorem k_fn3 {F : Fn} {d e f : D} {s : Sto} : kFn 3 F Q [d, e, f] s = okF F [d, e, f] s Q := rfl
theorem k_fn4 {F : Fn} {d e f h : D} {s : Sto} : kFn 4 F Q [d, e, f, h] s = okF F [d, e, f, h] s Q := rfl
theorem k_fn5 {F : Fn} {d e f h i : D} {s : Sto} : kFn 5 F Q [d, e, f, h, i] s = okF F [d, e, f, h, i] s Q := rfl
theorem ev_fn {m : Nat} {F : Fn} : okE (eFn m F as) env st Q = okA as env st (kFn m F Q) := by
  unfold okE eFn okA kFn okF
  rw [okO_bind]
  cases aAll as env st with
  | none => rfl
  | some p => simp only [okO_some, okO_ite, okO_none]
def kIsi (T : String) (Q : D → Sto → Prop) : D → Sto → Prop := fun d s => okO ((tyD (look s d)).bind fun t => kitB t T) fun b => Q (.bl b) s
theorem ev_isi' {T : String} : okE (eIsi T a) env st Q = okE a env st (kIsi T Q) := by
  unfold okE eIsi kIsi
  rw [okO_bind]
  cases a env st with
  | none => rfl
  | some p =>
    simp only [okO_some, okO_bind]
def kCh1 (g g' : D → D → Option D) (b c : Den) (env : Env) (Q : D → Sto → Prop) : D → Sto → Prop := fun d s => okE b env s fun e s => okO (g (look s d) (look s e)) fun z => match z with
  | .bl true => okE c env s (kBin2 g' e Q)
  | .bl false => Q (.bl false) s
  | _ => False
def kCh2 (g g' : D → D → Option D) (d : D) (c : Den) (env : Env) (Q : D → Sto → Prop) : D → Sto → Prop := fun e s => okO (g (look s d) (look s e)) fun z => match z with
  | .bl true => okE c env s (kBin2 g' e Q)
  | .bl false => Q (.bl false) s
  | _ => False
def kCh3 (g' : D → D → Option D) (e : D) (c : Den) (env : Env) (s : Sto) (Q : D → Sto → Prop) : D → Prop := fun z => match z with
  | .bl true => okE c env s (kBin2 g' e Q)
  | .bl false => Q (.bl false) s
  | _ => False
theorem k_ch1 {d : D} {s : Sto} : kCh1 g g' b c env Q d s = okE b env s (kCh2 g g' d c env Q) := rfl
theorem k_ch2 {d e : D} {s : Sto} : kCh2 g g' d c env Q e s = okO (g (look s d) (look s e)) (kCh3 g' e c env s Q) := rfl
theorem k_ch3 {e : D} {s : Sto} {x : Bool} : kCh3 g' e c env s Q (.bl x) = if x = true then okE c env s (kBin2 g' e Q) else Q (.bl false) s := by cases x <;> rfl
theorem ev_chain : okE (eChain g g' a b c) env st Q = okE a env st (kCh1 g g' b c env Q) := by
  unfold okE eChain kCh1 okE
  rw [okO_bind]
  cases a env st with
  | none => rfl
  | some p =>
    simp only [okO_some, okO_bind]
    cases b env p.2 with
    | none => rfl
    | some q =>
      simp only [okO_some, okO_bind]
      cases g (look q.2 p.1) (look q.2 q.1) with
      | none => rfl
      | some z =>
        simp only [okO_some]
        cases z with
        | bl x =>
          cases x with
          | false => rfl
          | true =>
            simp only [okO_bind]
            cases c env q.2 with
            | none => rfl
            | some r => simp only [okO_some, okO_bind]; rfl
        | _ => rfl
def kIf (a b : Den) (env : Env) (Q : D → Sto → Prop) : Bool → Sto → Prop := fun x s => if x = true then okE a env s Q else okE b env s Q
theorem k_if {x : Bool} {s : Sto} : kIf a b env Q x s = if x = true then okE a env s Q else okE b env s Q := rfl
theorem ev_if : okE (eIf t a b) env st Q = okT t env st (kIf a b env Q) := by
  unfold okE eIf okT kIf
  rw [okO_bind]
  cases t env st with
  | none => rfl
  | some p =>
    obtain ⟨x, s⟩ := p
    cases x <;> rfl
def kAnd (b : Den) (env : Env) (Q : D → Sto → Prop) : D → Sto → Prop := fun d s => match d with
  | .bl true => okE b env s Q
  | .bl false => Q (.bl false) s
  | _ => False
theorem k_and {x : Bool} {s : Sto} : kAnd b env Q (.bl x) s = if x = true then okE b env s Q else Q (.bl false) s := by cases x <;> rfl
theorem ev_and : okE (eAnd a b) env st Q = okE a env st (kAnd b env Q) := by
  unfold okE eAnd
  rw [okO_bind]
  cases a env st with
  | none => rfl
  | some p =>
    obtain ⟨d, s⟩ := p
    cases d with
    | bl x => cases x <;> rfl
    | _ => rfl
def kOr (b : Den) (env : Env) (Q : D → Sto → Prop) : D → Sto → Prop := fun d s => match d with
  | .bl true => Q (.bl true) s
  | .bl false => okE b env s Q
  | _ => False
theorem k_or {x : Bool} {s : Sto} : kOr b env Q (.bl x) s = if x = true then Q (.bl true) s else okE b env s Q := by cases x <;> rfl
theorem ev_or : okE (eOr a b) env st Q = okE a env st (kOr b env Q) := by
  unfold okE eOr
  rw [okO_bind]
  cases a env st with
  | none => rfl
  | some p =>
    obtain ⟨d, s⟩ := p
    cases d with
    | bl x => cases x <;> rfl
    | _ => rfl
-- slices
theorem ev_p0 {R : Option Int → Sto → Prop} : okP none env st R = R none st := rfl
def kP (R : Option Int → Sto → Prop) : D → Sto → Prop := fun d s => match d with
  | .int i => R (some i) s
  | _ => False
theorem k_p {R : Option Int → Sto → Prop} {i : Int} {s : Sto} : kP R (.int i) s = R (some i) s := rfl
theorem ev_p1 {R : Option Int → Sto → Prop} : okP (some a) env st R = okE a env st (kP R) := by
  unfold okP oAt okE
  rw [okO_bind]
  cases a env st with
  | none => rfl
  | some p =>
    obtain ⟨d, s⟩ := p
    cases d <;> rfl
def slD (d : D) (lo hi : Option Int) : Option D := match d with
  | .lst ds => some (.lst (cutD ds lo hi))
  | .tup ds => some (.tup (cutD ds lo hi))
  | .scr ds => some (.lst (cutD ds lo hi))
  | _ => none
def slDL (d : D) (lo hi : Option Int) : Option D := match d with
  | .lst ds => some (.lst (cutD ds lo hi))
  | _ => none
theorem sl_lst {ds : List D} {lo hi : Option Int} : slD (.lst ds) lo hi = some (.lst (cutD ds lo hi)) := rfl
theorem sl_tup {ds : List D} {lo hi : Option Int} : slD (.tup ds) lo hi = some (.tup (cutD ds lo hi)) := rfl
theorem sl_scr {ds : List D} {lo hi : Option Int} : slD (.scr ds) lo hi = some (.lst (cutD ds lo hi)) := rfl
theorem slL_lst {ds : List D} {lo hi : Option Int} : slDL (.lst ds) lo hi = some (.lst (cutD ds lo hi)) := rfl
def kSl1 (lo hi : Option Den) (env : Env) (Q : D → Sto → Prop) : D → Sto → Prop := fun d s => okP lo env s fun l s => okP hi env s fun h s => okO (slD (look s d) l h) (kRet s Q)
def kSl2 (d : D) (hi : Option Den) (env : Env) (Q : D → Sto → Prop) : Option Int → Sto → Prop := fun l s => okP hi env s fun h s => okO (slD (look s d) l h) (kRet s Q)
def kSl3 (d : D) (l : Option Int) (Q : D → Sto → Prop) : Option Int → Sto → Prop := fun h s => okO (slD (look s d) l h) (kRet s Q)
theorem k_sl1 {lo hi : Option Den} {d : D} {s : Sto} : kSl1 lo hi env Q d s = okP lo env s (kSl2 d hi env Q) := rfl
theorem k_sl2 {hi : Option Den} {d : D} {l : Option Int} {s : Sto} : kSl2 d hi env Q l s = okP hi env s (kSl3 d l Q) := rfl
theorem k_sl3 {d : D} {l h : Option Int} {s : Sto} : kSl3 d l Q h s = okO (slD (look s d) l h) (kRet s Q) := rfl
theorem ev_sl {lo hi : Option Den} : okE (eSl a lo hi) env st Q = okE a env st (kSl1 lo hi env Q) := by
  unfold okE eSl kSl1 okP
  rw [okO_bind]
  cases a env st with
  | none => rfl
  | some p =>
    simp only [okO_some, okO_bind]
    cases oAt lo env p.2 with
    | none => rfl
    | some q =>
      simp only [okO_some, okO_bind]
      cases oAt hi env q.2 with
      | none => rfl
      | some r =>
        simp only [okO_some]
        cases look r.2 p.1 <;> rfl
def kSr1 (lo hi : Option Den) (env : Env) (Q : D → Sto → Prop) : D → Sto → Prop := fun d s => okP lo env s fun l s => okP hi env s fun h s => okO (slDL (look s d) l h) (kRetR s Q)
def kSr2 (d : D) (hi : Option Den) (env : Env) (Q : D → Sto → Prop) : Option Int → Sto → Prop := fun l s => okP hi env s fun h s => okO (slDL (look s d) l h) (kRetR s Q)
def kSr3 (d : D) (l : Option Int) (Q : D → Sto → Prop) : Option Int → Sto → Prop := fun h s => okO (slDL (look s d) l h) (kRetR s Q)
theorem k_sr1 {lo hi : Option Den} {d : D} {s : Sto} : kSr1 lo hi env Q d s = okP lo env s (kSr2 d hi env Q) := rfl
theorem k_sr2 {hi : Option Den} {d : D} {l : Option Int} {s : Sto} : kSr2 d hi env Q l s = okP hi env s (kSr3 d l Q) := rfl
theorem k_sr3 {d : D} {l h : Option Int} {s : Sto} : kSr3 d l Q h s = okO (slDL (look s d) l h) (kRetR s Q) := rfl
theorem ev_slR {lo hi : Option Den} : okE (eSlR a lo hi) env st Q = okE a env st (kSr1 lo hi env Q) := by
  unfold okE eSlR kSr1 okP
  rw [okO_bind]
  cases a env st with
  | none => rfl
  | some p =>
    simp only [okO_some, okO_bind]
    cases oAt lo env p.2 with
    | none => rfl
    | some q =>
      simp only [okO_some, okO_bind]
      cases oAt hi env q.2 with
      | none => rfl
      | some r =>
        simp only [okO_some]
        cases look r.2 p.1 <;> rfl
def revD (d : D) : Option D := match d with
  | .lst ds => some (.lst ds.reverse)
  | .tup ds => some (.tup ds.reverse)
  | _ => none
theorem rev_lst {ds : List D} : revD (.lst ds) = some (.lst ds.reverse) := rfl
theorem rev_tup {ds : List D} : revD (.tup ds) = some (.tup ds.reverse) := rfl
theorem ev_rev : okE (eRev a) env st Q = okE a env st (kUn revD Q) := by
  unfold okE eRev kUn
  rw [okO_bind]
  cases a env st with
  | none => rfl
  | some p =>
    simp only [okO_some]
    cases look p.2 p.1 <;> rfl
-- methods
def kMt (g : D → List D → Sto → Option (D × Sto)) (as : List Den) (env : Env) (Q : D → Sto → Prop) : D → Sto → Prop := fun d s => if isLst (look s d) = true then okA as env s fun ds s => okO (g d ds s) fun p => Q p.1 p.2 else False
def kMt2 (g : D → List D → Sto → Option (D × Sto)) (d : D) (Q : D → Sto → Prop) : List D → Sto → Prop := fun ds s => okO (g d ds s) fun p => Q p.1 p.2
def kPr (Q : D → Sto → Prop) : D × Sto → Prop := fun p => Q p.1 p.2
theorem k_pr {d : D} {s : Sto} : kPr Q (d, s) = Q d s := rfl
theorem k_mt {g : D → List D → Sto → Option (D × Sto)} {d : D} {s : Sto} : kMt g as env Q d s = if isLst (look s d) = true then okA as env s (kMt2 g d Q) else False := rfl
theorem k_mt2 {g : D → List D → Sto → Option (D × Sto)} {d : D} {ds : List D} {s : Sto} : kMt2 g d Q ds s = okO (g d ds s) (kPr Q) := rfl
theorem ev_mt {g : D → List D → Sto → Option (D × Sto)} : okE (eMethL g a as) env st Q = okE a env st (kMt g as env Q) := by
  unfold okE eMethL kMt okA
  rw [okO_bind]
  cases a env st with
  | none => rfl
  | some p =>
    simp only [okO_some]
    by_cases h : isLst (look p.2 p.1) = true
    · rw [if_pos h, if_pos h, okO_bind]
    · rw [if_neg h, if_neg h]; rfl
-- tests
def kOf (T : Bool → Sto → Prop) : D → Sto → Prop := fun d s => match d with
  | .bl b => T b s
  | _ => False
theorem k_of {x : Bool} {s : Sto} : kOf T (.bl x) s = T x s := rfl
theorem ev_of : okT (tOf a) env st T = okE a env st (kOf T) := by
  unfold okT tOf okE
  rw [okO_bind]
  cases a env st with
  | none => rfl
  | some p =>
    obtain ⟨d, s⟩ := p
    cases d <;> rfl
def kTru (T : Bool → Sto → Prop) : D → Sto → Prop := fun d s => okO (truD (look s d)) fun b => T b s
def kRetT (s : Sto) (T : Bool → Sto → Prop) : Bool → Prop := fun z => T z s
theorem k_retT {s : Sto} {z : Bool} : kRetT s T z = T z s := rfl
theorem k_tru {d : D} {s : Sto} : kTru T d s = okO (truD (look s d)) (kRetT s T) := rfl
theorem ev_tru : okT (tTru a) env st T = okE a env st (kTru T) := by
  unfold okT tTru okE kTru
  rw [okO_bind]
  cases a env st with
  | none => rfl
  | some p => simp only [okO_some, okO_bind]
def kNot (T : Bool → Sto → Prop) : Bool → Sto → Prop := fun b s => T (!b) s
theorem k_not {x : Bool} {s : Sto} : kNot T x s = T (!x) s := rfl
theorem ev_not : okT (tNotT t) env st T = okT t env st (kNot T) := by
  unfold okT tNotT kNot
  rw [okO_bind]
  cases t env st <;> rfl
def kAndT (u : DenT) (env : Env) (T : Bool → Sto → Prop) : Bool → Sto → Prop := fun b s => if b = true then okT u env s T else T false s
theorem k_andT {x : Bool} {s : Sto} : kAndT u env T x s = if x = true then okT u env s T else T false s := rfl
theorem ev_andT : okT (tAndT t u) env st T = okT t env st (kAndT u env T) := by
  unfold okT tAndT kAndT
  rw [okO_bind]
  cases t env st with
  | none => rfl
  | some p =>
    obtain ⟨x, s⟩ := p
    cases x <;> rfl
def kOrT (u : DenT) (env : Env) (T : Bool → Sto → Prop) : Bool → Sto → Prop := fun b s => if b = true then T true s else okT u env s T
theorem k_orT {x : Bool} {s : Sto} : kOrT u env T x s = if x = true then T true s else okT u env s T := rfl
theorem ev_orT : okT (tOrT t u) env st T = okT t env st (kOrT u env T) := by
  unfold okT tOrT kOrT
  rw [okO_bind]
  cases t env st with
  | none => rfl
  | some p =>
    obtain ⟨x, s⟩ := p
    cases x <;> rfl
theorem ev_yes : okT tYesD env st T = T true st := rfl
end
-- targets
section
variable {env : Env} {st : Sto} {P : Env → Sto → Prop} {a b : Den}
theorem ev_nm {i : Nat} {d : D} : okG (gNm i) d env st P = P (env.set i (some d)) st := rfl
theorem ev_gtup {n : Nat} {g : DenGs} {ds : List D} (h : ds.length = n) : okG (gTup n g) (.tup ds) env st P = okGs g ds env st P := by
  unfold okG gTup okGs
  rw [lk_tup]
  simp only [if_pos h]
theorem ev_gtupL {n : Nat} {g : DenGs} {ds : List D} (h : ds.length = n) : okG (gTup n g) (.lst ds) env st P = okGs g ds env st P := by
  unfold okG gTup okGs
  rw [lk_lst]
  simp only [if_pos h]
theorem ev_gsnil : okGs gsNil [] env st P = P env st := rfl
def kGs (h : DenGs) (ds : List D) (P : Env → Sto → Prop) : Env → Sto → Prop := fun env s => okGs h ds env s P
theorem k_gs {h : DenGs} {ds : List D} {s : Sto} : kGs h ds P env s = okGs h ds env s P := rfl
theorem ev_gscons {g : DenG} {h : DenGs} {d : D} {ds : List D} : okGs (gsCons g h) (d :: ds) env st P = okG g d env st (kGs h ds P) := by
  unfold okGs gsCons okG kGs
  rw [okO_bind]
  rfl
def kSub1 (i : Den) (g : D → D → D → Sto → Option Sto) (d : D) (env : Env) (P : Env → Sto → Prop) : D → Sto → Prop := fun o s => okE i env s fun x s => okO (g o x d s) fun s => P env s
def kSub2 (g : D → D → D → Sto → Option Sto) (d o : D) (env : Env) (P : Env → Sto → Prop) : D → Sto → Prop := fun x s => okO (g o x d s) fun s => P env s
def kSub3 (env : Env) (P : Env → Sto → Prop) : Sto → Prop := fun s => P env s
theorem k_sub1 {i : Den} {g : D → D → D → Sto → Option Sto} {d o : D} {s : Sto} : kSub1 i g d env P o s = okE i env s (kSub2 g d o env P) := rfl
theorem k_sub2 {g : D → D → D → Sto → Option Sto} {d o x : D} {s : Sto} : kSub2 g d o env P x s = okO (g o x d s) (kSub3 env P) := rfl
theorem k_sub3 {s : Sto} : kSub3 env P s = P env s := rfl
theorem ev_sub {g : D → D → D → Sto → Option Sto} {d : D} : okG (gSubD a b g) d env st P = okE a env st (kSub1 b g d env P) := by
  unfold okG gSubD okE kSub1 okE
  rw [okO_bind]
  cases a env st with
  | none => rfl
  | some p =>
    simp only [okO_some, okO_bind]
end
-- statements
section
variable {a b : DenS} {e f : Den} {t : DenT} {g : DenG} {env : Env} {st : Sto} {Q : Fl → Env → Sto → Prop}
def kSeq (b : DenS) (Q : Fl → Env → Sto → Prop) : Fl → Env → Sto → Prop := fun fl env s => match fl with
  | .nx => okS b env s Q
  | fl => Q fl env s
theorem k_seq {s : Sto} : kSeq b Q .nx env s = okS b env s Q := rfl
theorem k_seq_rt {d : D} {s : Sto} : kSeq b Q (.rt d) env s = Q (.rt d) env s := rfl
theorem k_seq_bk {s : Sto} : kSeq b Q .bk env s = Q .bk env s := rfl
theorem k_seq_ct {s : Sto} : kSeq b Q .ct env s = Q .ct env s := rfl
theorem ev_seq : okS (sSeq a b) env st Q = okS a env st (kSeq b Q) := by
  unfold okS sSeq kSeq okS
  rw [okO_bind]
  cases a env st with
  | none => rfl
  | some p =>
    obtain ⟨fl, env, s⟩ := p
    cases fl <;> rfl
theorem ev_snil : okS sNil env st Q = Q .nx env st := rfl
theorem ev_pass : okS sPass env st Q = Q .nx env st := rfl
theorem ev_brk : okS sBreak env st Q = Q .bk env st := rfl
theorem ev_cnt : okS sCont env st Q = Q .ct env st := rfl
def kRt (env : Env) (Q : Fl → Env → Sto → Prop) : D → Sto → Prop := fun d s => Q (.rt d) env s
theorem k_rt {d : D} {s : Sto} : kRt env Q d s = Q (.rt d) env s := rfl
theorem ev_ret : okS (sRet e) env st Q = okE e env st (kRt env Q) := by
  unfold okS sRet okE kRt
  rw [okO_bind]; rfl
def kNx (env : Env) (Q : Fl → Env → Sto → Prop) : D → Sto → Prop := fun d s => Q .nx env s
theorem k_nx {d : D} {s : Sto} : kNx env Q d s = Q .nx env s := rfl
theorem ev_expr : okS (sExpr e) env st Q = okE e env st (kNx env Q) := by
  unfold okS sExpr okE kNx
  rw [okO_bind]; rfl
def kSif (a b : DenS) (env : Env) (Q : Fl → Env → Sto → Prop) : Bool → Sto → Prop := fun x s => if x = true then okS a env s Q else okS b env s Q
theorem k_sif {x : Bool} {s : Sto} : kSif a b env Q x s = if x = true then okS a env s Q else okS b env s Q := rfl
theorem ev_sif : okS (sIf t a b) env st Q = okT t env st (kSif a b env Q) := by
  unfold okS sIf okT kSif okS
  rw [okO_bind]
  cases t env st with
  | none => rfl
  | some p =>
    obtain ⟨x, s⟩ := p
    cases x <;> rfl
def kAsg (g : DenG) (env : Env) (Q : Fl → Env → Sto → Prop) : D → Sto → Prop := fun d s => okG g d env s fun env s => Q .nx env s
def kGnx (Q : Fl → Env → Sto → Prop) : Env → Sto → Prop := fun env s => Q .nx env s
theorem k_asg {d : D} {s : Sto} : kAsg g env Q d s = okG g d env s (kGnx Q) := rfl
theorem k_gnx {s : Sto} : kGnx Q env s = Q .nx env s := rfl
theorem ev_asg : okS (sAsg e g) env st Q = okE e env st (kAsg g env Q) := by
  unfold okS sAsg okE kAsg okG
  rw [okO_bind]
  cases e env st with
  | none => rfl
  | some p => simp only [okO_some, okO_bind]
def kPar (i j : Nat) (env : Env) (Q : Fl → Env → Sto → Prop) : List D → Sto → Prop := fun ds s => match ds with
  | [x, y] => Q .nx ((env.set i (some x)).set j (some y)) s
  | _ => False
theorem k_par {i j : Nat} {x y : D} {s : Sto} : kPar i j env Q [x, y] s = Q .nx ((env.set i (some x)).set j (some y)) s := rfl
theorem ev_par {i j : Nat} {as : List Den} : okS (sPar i j as) env st Q = okA as env st (kPar i j env Q) := by
  unfold okS sPar okA kPar
  rw [okO_bind]
  cases aAll as env st with
  | none => rfl
  | some p =>
    obtain ⟨ds, s⟩ := p
    match ds with
    | [] => rfl
    | [_] => rfl
    | [_, _] => rfl
    | _ :: _ :: _ :: _ => rfl
theorem ev_frz {i : Nat} : okS (sFrz i b) env st Q = okO (sFrz i b env st) fun p => Q p.1 p.2.1 p.2.2 := rfl
-- loops
def okFor (g : DenG) (b : DenS) (ds : List D) (env : Env) (st : Sto) (Q : Fl → Env → Sto → Prop) : Prop := okO (forD g b ds env st) fun p => Q p.1 p.2.1 p.2.2
def kFor (g : DenG) (b : DenS) (env : Env) (Q : Fl → Env → Sto → Prop) : List D → Sto → Prop := fun ds s => okFor g b ds env s Q
theorem k_for {ds : List D} {s : Sto} : kFor g b env Q ds s = okFor g b ds env s Q := rfl
theorem ev_for {it : DenI} : okS (sFor it g b) env st Q = okI it env st (kFor g b env Q) := by
  unfold okS sFor okI kFor okFor
  rw [okO_bind]
theorem for_nil : okFor g b [] env st Q = Q .nx env st := rfl
def kFor1 (g : DenG) (b : DenS) (ds : List D) (Q : Fl → Env → Sto → Prop) : Env → Sto → Prop := fun env s => okS b env s fun fl env s => match fl with
  | .nx => okFor g b ds env s Q
  | .ct => okFor g b ds env s Q
  | .bk => Q .nx env s
  | .rt d => Q (.rt d) env s
def kFor2 (g : DenG) (b : DenS) (ds : List D) (Q : Fl → Env → Sto → Prop) : Fl → Env → Sto → Prop := fun fl env s => match fl with
  | .nx => okFor g b ds env s Q
  | .ct => okFor g b ds env s Q
  | .bk => Q .nx env s
  | .rt d => Q (.rt d) env s
theorem k_for1 {ds : List D} {s : Sto} : kFor1 g b ds Q env s = okS b env s (kFor2 g b ds Q) := rfl
theorem k_for2_nx {ds : List D} {s : Sto} : kFor2 g b ds Q .nx env s = okFor g b ds env s Q := rfl
theorem k_for2_ct {ds : List D} {s : Sto} : kFor2 g b ds Q .ct env s = okFor g b ds env s Q := rfl
theorem k_for2_bk {ds : List D} {s : Sto} : kFor2 g b ds Q .bk env s = Q .nx env s := rfl
theorem k_for2_rt {ds : List D} {s : Sto} {d : D} : kFor2 g b ds Q (.rt d) env s = Q (.rt d) env s := rfl
theorem for_cons {d : D} {ds : List D} : okFor g b (d :: ds) env st Q = okG g d env st (kFor1 g b ds Q) := by
  unfold okFor forD okG kFor1 okS okFor
  rw [okO_bind]
  cases g d env st with
  | none => rfl
  | some p =>
    simp only [okO_some, okO_bind]
    cases b p.1 p.2 with
    | none => rfl
    | some q =>
      obtain ⟨fl, env, s⟩ := q
      cases fl <;> rfl
def kT2 (N B : Env → Sto → Prop) (R : D → Env → Sto → Prop) : Fl → Env → Sto → Prop := fun fl env s => match fl with
  | .nx => N env s
  | .ct => N env s
  | .bk => B env s
  | .rt d => R d env s
def kT1 (b : DenS) (N B : Env → Sto → Prop) (R : D → Env → Sto → Prop) : Env → Sto → Prop := fun env s => okS b env s (kT2 N B R)
section
variable {N B : Env → Sto → Prop} {R : D → Env → Sto → Prop} {s : Sto}
theorem k_t1 : kT1 b N B R env s = okS b env s (kT2 N B R) := rfl
theorem k_t2_nx : kT2 N B R .nx env s = N env s := rfl
theorem k_t2_ct : kT2 N B R .ct env s = N env s := rfl
theorem k_t2_bk : kT2 N B R .bk env s = B env s := rfl
theorem k_t2_rt {d : D} : kT2 N B R (.rt d) env s = R d env s := rfl
end
/-- a loop by what holds ahead of each turn: I, of what is done and what is left -/
theorem for_inv {ds : List D} (I : List D → List D → Env → Sto → Prop) (h0 : I [] ds env st)
    (hs : ∀ done d rest env st, ds = done ++ d :: rest → I done (d :: rest) env st → okG g d env st (kT1 b (I (done ++ [d]) rest) (Q .nx) fun x env st => Q (.rt x) env st))
    (hd : ∀ env st, I ds [] env st → Q .nx env st) : okFor g b ds env st Q := by
  suffices ∀ (rest done : List D) (env : Env) (st : Sto), ds = done ++ rest → I done rest env st → okFor g b rest env st Q from this ds [] env st rfl h0
  intro rest
  induction rest with
  | nil =>
    intro done env st e i
    rw [for_nil]
    rw [List.append_nil] at e
    exact hd env st (e ▸ i)
  | cons d rest ih =>
    intro done env st e i
    have q := hs done d rest env st e i
    rw [for_cons]
    unfold okG kT1 okS at q
    unfold okG kFor1 okS
    cases h1 : g d env st with
    | none => rw [h1] at q; exact q
    | some p =>
      rw [h1] at q
      simp only [okO_some] at q ⊢
      cases h2 : b p.1 p.2 with
      | none => rw [h2] at q; exact q
      | some r =>
        rw [h2] at q
        obtain ⟨fl, env', s'⟩ := r
        simp only [okO_some] at q ⊢
        cases fl with
        | nx => exact ih (done ++ [d]) env' s' (by rw [e]; simp) q
        | rt x => exact q
        | bk => exact q
        | ct => exact ih (done ++ [d]) env' s' (by rw [e]; simp) q
def okWhl (n : Nat) (t : DenT) (b : DenS) (env : Env) (st : Sto) (Q : Fl → Env → Sto → Prop) : Prop := okO (whlD t b n env st) fun p => Q p.1 p.2.1 p.2.2
theorem ev_whl {n : Nat} : okS (sWhl n t b) env st Q = okWhl n t b env st Q := rfl
def kW1 (n : Nat) (t : DenT) (b : DenS) (env : Env) (Q : Fl → Env → Sto → Prop) : Bool → Sto → Prop := fun x s => if x = true then okS b env s fun fl env s => match fl with
  | .nx => okWhl n t b env s Q
  | .ct => okWhl n t b env s Q
  | .bk => Q .nx env s
  | .rt d => Q (.rt d) env s else Q .nx env s
def kW2 (n : Nat) (t : DenT) (b : DenS) (Q : Fl → Env → Sto → Prop) : Fl → Env → Sto → Prop := fun fl env s => match fl with
  | .nx => okWhl n t b env s Q
  | .ct => okWhl n t b env s Q
  | .bk => Q .nx env s
  | .rt d => Q (.rt d) env s
theorem k_w1 {n : Nat} {x : Bool} {s : Sto} : kW1 n t b env Q x s = if x = true then okS b env s (kW2 n t b Q) else Q .nx env s := rfl
theorem k_w2_nx {n : Nat} {s : Sto} : kW2 n t b Q .nx env s = okWhl n t b env s Q := rfl
theorem k_w2_ct {n : Nat} {s : Sto} : kW2 n t b Q .ct env s = okWhl n t b env s Q := rfl
theorem k_w2_bk {n : Nat} {s : Sto} : kW2 n t b Q .bk env s = Q .nx env s := rfl
theorem k_w2_rt {n : Nat} {s : Sto} {d : D} : kW2 n t b Q (.rt d) env s = Q (.rt d) env s := rfl
theorem whl_succ {n : Nat} : okWhl (n + 1) t b env st Q = okT t env st (kW1 n t b env Q) := by
  unfold okWhl whlD okT kW1 okS okWhl
  rw [okO_bind]
  cases t env st with
  | none => rfl
  | some p =>
    obtain ⟨x, s⟩ := p
    cases x with
    | false => rfl
    | true =>
      simp only [okO_some, okO_bind, if_true]
      cases b env s with
      | none => rfl
      | some q =>
        obtain ⟨fl, env, s⟩ := q
        cases fl <;> rfl
end
-- iterables
section
variable {a b : Den} {env : Env} {st : Sto} {L : List D → Sto → Prop} {as : List Den}
def kRetL (s : Sto) (L : List D → Sto → Prop) : List D → Prop := fun z => L z s
theorem k_retL {s : Sto} {ds : List D} : kRetL s L ds = L ds s := rfl
def kSeqI (L : List D → Sto → Prop) : D → Sto → Prop := fun d s => okO (seqD d) (kRetL s L)
theorem k_seqI {d : D} {s : Sto} : kSeqI L d s = okO (seqD d) (kRetL s L) := rfl
theorem seq_lst {ds : List D} : seqD (.lst ds) = some ds := rfl
theorem seq_tup {ds : List D} : seqD (.tup ds) = some ds := rfl
theorem ev_iseq : okI (iSeq a) env st L = okE a env st (kSeqI L) := by
  unfold okI iSeq okE kSeqI
  rw [okO_bind]
  cases a env st with
  | none => rfl
  | some p => simp only [okO_some, okO_bind]; rfl
def rngM (ds : List D) (s : Sto) : Option (List D × Sto) := match ds with
  | [.int j] => if -(2 ^ 62) ≤ j ∧ j < 2 ^ 62 then some (rngD 0 j.toNat, s) else none
  | [.int i, .int j] => if -(2 ^ 62) ≤ i ∧ i < 2 ^ 62 ∧ -(2 ^ 62) ≤ j ∧ j < 2 ^ 62 then some (rngD i (j - i).toNat, s) else none
  | _ => none
def kRng (L : List D → Sto → Prop) : List D → Sto → Prop := fun ds s => okO (rngM ds s) fun p => L p.1 p.2
theorem k_rng1 {j : Int} {s : Sto} : kRng L [.int j] s = if -(2 ^ 62) ≤ j ∧ j < 2 ^ 62 then L (rngD 0 j.toNat) s else False := okO_ite
theorem k_rng2 {i j : Int} {s : Sto} : kRng L [.int i, .int j] s = if -(2 ^ 62) ≤ i ∧ i < 2 ^ 62 ∧ -(2 ^ 62) ≤ j ∧ j < 2 ^ 62 then L (rngD i (j - i).toNat) s else False := okO_ite
theorem range_m : iRange as env st = (aAll as env st).bind fun p => rngM p.1 p.2 := rfl
theorem ev_range : okI (iRange as) env st L = okA as env st (kRng L) := by
  unfold okI okA
  rw [range_m, okO_bind]
  rfl
def kEnum (L : List D → Sto → Prop) : D → Sto → Prop := fun d s => okO (seqD d) fun ds => L (enumD 0 ds) s
theorem ev_enum : okI (iEnum a) env st L = okE a env st (kEnum L) := by
  unfold okI iEnum okE kEnum
  rw [okO_bind]
  cases a env st with
  | none => rfl
  | some p => simp only [okO_some, okO_bind]
theorem k_enum_lst {ds : List D} {s : Sto} : kEnum L (.lst ds) s = L (enumD 0 ds) s := rfl
theorem k_enum_tup {ds : List D} {s : Sto} : kEnum L (.tup ds) s = L (enumD 0 ds) s := rfl
end
-- comprehensions
section
variable {it : DenI} {g : DenG} {t : DenT} {own : List Nat} {f : Den} {env : Env} {st : Sto} {Q : D → Sto → Prop}
theorem gnL_nm {i : Nat} {body : EmD (List D)} {d : D} {ds acc : List D} : gnL (gNm i) t body (d :: ds) env st acc = (t (env.set i (some d)) st).bind fun q => (match q.1 with
    | true => body (env.set i (some d)) q.2 acc
    | false => some (acc, q.2)).bind fun r => gnL (gNm i) t body ds env r.2 r.1 := rfl
theorem compL_em {acc : List D} : compL (emL f) [] env st acc = (f env st).bind fun p => if acc.length < sizeLine then some (acc ++ [p.1], p.2) else none := rfl
/-- one clause, the target a name, nothing laid: filter and map -/
theorem gnL_pure {i : Nat} {e : Env} {keep : D → Bool} {val : D → D} (st : Sto) : ∀ (ds acc : List D), acc.length + ds.length ≤ sizeLine →
    (∀ (d : D) (e' : Env), d ∈ ds → (∀ j, j ≠ i → e'[j]? = e[j]?) → e'.length = e.length → t (e'.set i (some d)) st = some (keep d, st) ∧ (keep d = true → f (e'.set i (some d)) st = some (val d, st))) →
    ∀ e' : Env, (∀ j, j ≠ i → e'[j]? = e[j]?) → e'.length = e.length → gnL (gNm i) t (compL (emL f) []) ds e' st acc = some (acc ++ (ds.filter keep).map val, st)
  | [], acc, _, _, e', _, _ => by unfold gnL; simp
  | d :: ds, acc, hl, h, e', h1, h2 => by
    obtain ⟨q1, q2⟩ := h d e' List.mem_cons_self h1 h2
    rw [gnL_nm, q1, Option.bind_some]
    dsimp only
    rw [List.length_cons] at hl
    cases hk : keep d with
    | false =>
      simp only [Option.bind_some]
      have ih := gnL_pure (i := i) (keep := keep) (val := val) st ds acc (by omega) (fun d e' m => h d e' (List.mem_cons_of_mem _ m)) e' h1 h2
      rw [ih, List.filter_cons_of_neg (by rw [hk]; exact Bool.false_ne_true)]
    | true =>
      dsimp only
      rw [compL_em, q2 hk, Option.bind_some, if_pos (by omega), Option.bind_some]
      have ih := gnL_pure (i := i) (keep := keep) (val := val) st ds (acc ++ [val d]) (by rw [List.length_append]; simp; omega) (fun d e' m => h d e' (List.mem_cons_of_mem _ m)) e' h1 h2
      rw [ih, List.filter_cons_of_pos hk]
      simp
end
theorem eq_ii {i j : Int} : gEq (.int i) (.int j) = some (.bl (i == j)) := by
  unfold gEq
  rw [if_pos ⟨rfl, rfl⟩]
  rfl
theorem ne_ii {i j : Int} : gNe (.int i) (.int j) = some (.bl (!(i == j))) := by
  unfold gNe
  rw [if_pos ⟨rfl, rfl⟩]
  rfl
theorem ne_bb {i j : Bool} : gNe (.bl i) (.bl j) = some (.bl (!(i == j))) := by
  unfold gNe
  rw [if_pos ⟨rfl, rfl⟩]
  rfl
theorem eq_bb {i j : Bool} : gEq (.bl i) (.bl j) = some (.bl (i == j)) := by
  unfold gEq
  rw [if_pos ⟨rfl, rfl⟩]
  rfl
end Pv
namespace Pv
open PySem PySem.Spec PyProof.Rows L2
/-! ### the operations at values -/
section
variable {i j : Int} {a b : List D} {x y z w : D} {st : Sto}
theorem add_ii : gAdd (.int i) (.int j) = some (.int (i + j)) := rfl
theorem add_tt : gAdd (.tup a) (.tup b) = if a.length + b.length ≤ sizeLine then some (.tup (a ++ b)) else none := rfl
theorem add_ll : gAdd (.lst a) (.lst b) = if a.length + b.length ≤ sizeLine then some (.lst (a ++ b)) else none := rfl
theorem sub_ii : gSub (.int i) (.int j) = some (.int (i - j)) := rfl
theorem mul_ii : gMul (.int i) (.int j) = if i.natAbs.log2 + j.natAbs.log2 < 1000000 then some (.int (i * j)) else none := rfl
theorem div_ii : gDiv (.int i) (.int j) = if j ≠ 0 ∧ j.natAbs < 1073741824 then some (.int (i.fdiv j)) else none := rfl
theorem mod_ii : gMod (.int i) (.int j) = if j ≠ 0 then some (.int (i.fmod j)) else none := rfl
theorem pow_ii : gPow (.int i) (.int j) = if 0 ≤ j ∧ j ≤ 1000000 ∧ i.natAbs < 2 ^ 64 then some (.int (i ^ j.toNat)) else none := rfl
theorem neg_i : gNeg (.int i) = some (.int (-i)) := rfl
theorem cmp_ii {p : Int → Int → Bool} : gCmp p (.int i) (.int j) = some (.bl (p i j)) := rfl
theorem not_b {c : Bool} : gNot (.bl c) = some (.bl (!c)) := rfl
theorem isb_bb {n c d : Bool} : gIsB n (.bl c) (.bl d) = some (.bl (if n = true then !decide (c = d) else decide (c = d))) := rfl
theorem tru_b {c : Bool} : truD (.bl c) = some c := rfl
theorem tru_i : truD (.int i) = some (i != 0) := rfl
theorem tru_n : truD .non = some false := rfl
theorem tru_t : truD (.tup a) = some (!a.isEmpty) := rfl
theorem tru_l : truD (.lst a) = some (!a.isEmpty) := rfl
theorem len_l : gLen [.lst a] = some (.int a.length) := rfl
theorem len_t : gLen [.tup a] = some (.int a.length) := rfl
theorem abs_i : gAbs [.int i] = some (.int (if i < 0 then -i else i)) := rfl
theorem max_ii : gMax2 [.int i, .int j] = some (.int (if j > i then j else i)) := rfl
theorem min_ii : gMin2 [.int i, .int j] = some (.int (if j < i then j else i)) := rfl
theorem tuple_l : gTuple [.lst a] = some (.tup a) := rfl
theorem tuple_t : gTuple [.tup a] = some (.tup a) := rfl
theorem list_l : gList [.lst a] = some (.lst a) := rfl
theorem list_t : gList [.tup a] = some (.lst a) := rfl
theorem ix_l : gIxA (.lst a) (.int i) = atD a i := rfl
theorem ix_t : gIxA (.tup a) (.int i) = atD a i := rfl
theorem at_0 : atD (x :: a) 0 = some x := by
  unfold atD ixN
  rw [if_pos (by decide), if_pos (by simp)]; rfl
theorem at_1 : atD (x :: y :: a) 1 = some y := by
  unfold atD ixN
  rw [if_pos (by decide), if_pos (by simp; omega)]; rfl
theorem at_2 : atD (x :: y :: z :: a) 2 = some z := by
  unfold atD ixN
  rw [if_pos (by decide), if_pos (by simp; omega)]; rfl
theorem at_3 : atD (x :: y :: z :: w :: a) 3 = some w := by
  unfold atD ixN
  rw [if_pos (by decide), if_pos (by simp; omega)]; rfl
theorem at_pos {d : D} (h0 : 0 ≤ i) (h : a[i.toNat]? = some d) : atD a i = some d := by
  unfold atD ixN
  have := (List.getElem?_eq_some_iff.mp h).1
  rw [if_pos h0, if_pos (by omega)]; exact h
theorem at_nat {n : Nat} : atD a (n : Int) = a[n]? := by
  unfold atD ixN
  rw [if_pos (by omega)]
  by_cases h : (n : Int) < a.length
  · rw [if_pos h]; rfl
  · rw [if_neg h, List.getElem?_eq_none (by omega)]; rfl
/-- a place that is drawn among those there are -/
theorem at_in (h0 : 0 ≤ i) (h : i < a.length) : ∃ d, d ∈ a ∧ atD a i = some d := by
  have h' : i.toNat < a.length := by omega
  exact ⟨a[i.toNat], List.getElem_mem h', at_pos h0 (List.getElem?_eq_getElem h')⟩
theorem okO_at {Q : D → Prop} (h0 : 0 ≤ i) (h : i < a.length) (q : ∀ d, d ∈ a → Q d) : okO (atD a i) Q := by
  obtain ⟨d, m, e⟩ := at_in h0 h
  rw [e]; exact q d m
theorem setA_l {n k : Nat} {d : D} (h : st[n]? = some (.lst a)) (hk : ixN a.length i = some k) : setA (.ref n) (.int i) d st = some (st.set n (.lst (a.set k d))) := by
  have e : setL (.ref n) (.int i) d st = some (st.set n (.lst (a.set k d))) := by
    show (match st[n]? with
      | some (.lst ds) => (ixN ds.length i).bind fun j => some (st.set n (.lst (ds.set j d)))
      | _ => none) = _
    rw [h]
    dsimp only
    rw [hk]; rfl
  unfold setA
  rw [e]
theorem ixN_pos {n : Nat} (h0 : 0 ≤ i) (h : i < n) : ixN n i = some i.toNat := by
  unfold ixN
  rw [if_pos h0, if_pos h]
end
theorem isIB_non : isIB .non = false := rfl
theorem isIB_bl {b : Bool} : isIB (.bl b) = true := rfl
theorem isIB_int {i : Int} : isIB (.int i) = true := rfl
theorem isIB_str {x : Str} : isIB (.str x) = false := rfl
theorem isIB_tup {ds : List D} : isIB (.tup ds) = false := rfl
theorem isIB_lst {ds : List D} : isIB (.lst ds) = false := rfl
theorem isB_non : isB .non = false := rfl
theorem isB_bl {b : Bool} : isB (.bl b) = true := rfl
theorem isB_int {i : Int} : isB (.int i) = false := rfl
theorem isB_str {x : Str} : isB (.str x) = false := rfl
theorem isB_tup {ds : List D} : isB (.tup ds) = false := rfl
theorem isB_lst {ds : List D} : isB (.lst ds) = false := rfl
theorem isTup_non : isTup .non = false := rfl
theorem isTup_bl {b : Bool} : isTup (.bl b) = false := rfl
theorem isTup_int {i : Int} : isTup (.int i) = false := rfl
theorem isTup_str {x : Str} : isTup (.str x) = false := rfl
theorem isTup_tup {ds : List D} : isTup (.tup ds) = true := rfl
theorem isTup_lst {ds : List D} : isTup (.lst ds) = false := rfl
theorem isI_non : isI .non = false := rfl
theorem isI_bl {b : Bool} : isI (.bl b) = false := rfl
theorem isI_int {i : Int} : isI (.int i) = true := rfl
theorem isI_str {x : Str} : isI (.str x) = false := rfl
theorem isI_tup {ds : List D} : isI (.tup ds) = false := rfl
theorem isI_lst {ds : List D} : isI (.lst ds) = false := rfl
theorem isLst_l {a : List D} : isLst (.lst a) = true := rfl
theorem mApp_l {st : Sto} {n : Nat} {a : List D} {d : D} (h : st[n]? = some (.lst a)) (hl : a.length < sizeLine) : mApp (.ref n) [d] st = some (.non, st.set n (.lst (a ++ [d]))) := by
  show (match st[n]? with
    | some (.lst ds) => if ds.length < sizeLine then some (D.non, st.set n (.lst (ds ++ [d]))) else none
    | _ => none) = _
  rw [h]
  exact if_pos hl
theorem mPop_l {st : Sto} {n : Nat} {a : List D} {d : D} (h : st[n]? = some (.lst (a ++ [d]))) : mPop (.ref n) [] st = some (d, st.set n (.lst a)) := by
  show (match st[n]? with
    | some (.lst ds) => ds[ds.length - 1]?.bind fun d => some (d, st.set n (.lst ds.dropLast))
    | _ => none) = _
  rw [h]
  dsimp only
  have e : (a ++ [d])[(a ++ [d]).length - 1]? = some d := by simp
  rw [e, Option.bind_some, List.dropLast_concat]
theorem mIns_l {st : Sto} {n : Nat} {a : List D} {d : D} {i : Int} (h : st[n]? = some (.lst a)) (hl : a.length < sizeLine) (h0 : 0 ≤ i) (h1 : i < 2 ^ 63) : mIns (.ref n) [.int i, d] st = some (.non, st.set n (.lst (a.take i.toNat ++ [d] ++ a.drop i.toNat))) := by
  show (match st[n]? with
    | some (.lst ds) => if ds.length < sizeLine ∧ 0 ≤ i ∧ i < 2 ^ 63 then some (D.non, st.set n (.lst (ds.take i.toNat ++ [d] ++ ds.drop i.toNat))) else none
    | _ => none) = _
  rw [h]
  exact if_pos ⟨hl, h0, h1⟩
theorem ev_gtup1 {g : DenGs} {a : D} {env : Env} {st : Sto} {P : Env → Sto → Prop} : okG (gTup 1 g) (.tup [a]) env st P = okGs g [a] env st P := ev_gtup rfl
theorem ev_gtupL2 {g : DenGs} {a b : D} {env : Env} {st : Sto} {P : Env → Sto → Prop} : okG (gTup 2 g) (.lst [a, b]) env st P = okGs g [a, b] env st P := ev_gtupL rfl
theorem ev_gtupL3 {g : DenGs} {a b c : D} {env : Env} {st : Sto} {P : Env → Sto → Prop} : okG (gTup 3 g) (.lst [a, b, c]) env st P = okGs g [a, b, c] env st P := ev_gtupL rfl
theorem ev_gtupL4 {g : DenGs} {a b c d : D} {env : Env} {st : Sto} {P : Env → Sto → Prop} : okG (gTup 4 g) (.lst [a, b, c, d]) env st P = okGs g [a, b, c, d] env st P := ev_gtupL rfl
theorem ev_gtup2 {g : DenGs} {a b : D} {env : Env} {st : Sto} {P : Env → Sto → Prop} : okG (gTup 2 g) (.tup [a, b]) env st P = okGs g [a, b] env st P := ev_gtup rfl
theorem ev_gtup3 {g : DenGs} {a b c : D} {env : Env} {st : Sto} {P : Env → Sto → Prop} : okG (gTup 3 g) (.tup [a, b, c]) env st P = okGs g [a, b, c] env st P := ev_gtup rfl
theorem ev_gtup4 {g : DenGs} {a b c d : D} {env : Env} {st : Sto} {P : Env → Sto → Prop} : okG (gTup 4 g) (.tup [a, b, c, d]) env st P = okGs g [a, b, c, d] env st P := ev_gtup rfl
section
variable {a b : Den} {env : Env} {st : Sto} {Q : D → Sto → Prop}
theorem ev_dct0 : okE eDct0 env st Q = Q (.dct true [] []) st := rfl
theorem ev_dct0R : okE eDct0R env st Q = Q (.ref st.length) (st ++ [.dct true [] []]) := rfl
def kD1 (b : Den) (env : Env) (Q : D → Sto → Prop) : D → Sto → Prop := fun d s => okE b env s fun e s => okO (tkey d) fun _ => Q (.ref s.length) (s ++ [.dct true [d] [e]])
def kD2 (d : D) (Q : D → Sto → Prop) : D → Sto → Prop := fun e s => okO (tkey d) fun _ => Q (.ref s.length) (s ++ [.dct true [d] [e]])
def kD3 (d e : D) (s : Sto) (Q : D → Sto → Prop) : NestedKey → Prop := fun _ => Q (.ref s.length) (s ++ [.dct true [d] [e]])
theorem k_d1 {d : D} {s : Sto} : kD1 b env Q d s = okE b env s (kD2 d Q) := rfl
theorem k_d2 {d e : D} {s : Sto} : kD2 d Q e s = okO (tkey d) (kD3 d e s Q) := rfl
theorem k_d3 {d e : D} {s : Sto} {nk : NestedKey} : kD3 d e s Q nk = Q (.ref s.length) (s ++ [.dct true [d] [e]]) := rfl
theorem ev_dct1R : okE (eDct1R a b) env st Q = okE a env st (kD1 b env Q) := by
  unfold okE eDct1R kD1 okE
  rw [okO_bind]
  cases a env st with
  | none => rfl
  | some p =>
    simp only [okO_some, okO_bind]
end
/-! ### slices -/
theorem sIx_some_nat (n d k : Nat) : HT.sIx n d (some (k : Int)) = min k n := HT.sIx_nat n d k
theorem cut_to (a : List D) {i : Int} (h : 0 ≤ i) : cutD a none (some i) = a.take i.toNat := by
  unfold cutD
  obtain ⟨k, rfl⟩ := Int.eq_ofNat_of_zero_le h
  rw [HT.sIx_none, HT.sIx_nat, List.drop_zero, Nat.sub_zero, Int.toNat_natCast]
  by_cases hk : k ≤ a.length
  · rw [Nat.min_eq_left hk]
  · rw [Nat.min_eq_right (by omega), List.take_length, List.take_of_length_le (by omega)]
theorem cut_from (a : List D) {i : Int} (h : 0 ≤ i) : cutD a (some i) none = a.drop i.toNat := by
  unfold cutD
  obtain ⟨k, rfl⟩ := Int.eq_ofNat_of_zero_le h
  rw [HT.sIx_none, HT.sIx_nat, Int.toNat_natCast]
  by_cases hk : k ≤ a.length
  · rw [Nat.min_eq_left hk, List.take_of_length_le (by rw [List.length_drop]; exact Nat.le_refl _)]
  · rw [Nat.min_eq_right (by omega), List.drop_length, List.drop_eq_nil_of_le (by omega)]
    simp
theorem cut_mem {a : List D} {lo hi : Option Int} {d : D} (h : d ∈ cutD a lo hi) : d ∈ a := List.mem_of_mem_drop (List.mem_of_mem_take h)
theorem cut_len (a : List D) (lo hi : Option Int) : (cutD a lo hi).length ≤ a.length := by
  unfold cutD
  rw [List.length_take, List.length_drop]; omega
theorem isPds_all : ∀ {ds : List D}, isPds ds = true ↔ ∀ d ∈ ds, isPd d = true
  | [] => ⟨fun _ _ h => by simp at h, fun _ => rfl⟩
  | d :: ds => by
    unfold isPds
    rw [Bool.and_eq_true, isPds_all]
    simp
def kBody (Q : D → Sto → Prop) : Fl → Env → Sto → Prop := fun fl _ s => match fl with
  | .nx => Q .non s
  | .rt d => Q d s
  | _ => False
theorem k_body_nx {Q : D → Sto → Prop} {env : Env} {s : Sto} : kBody Q .nx env s = Q .non s := rfl
theorem k_body_rt {Q : D → Sto → Prop} {env : Env} {s : Sto} {d : D} : kBody Q (.rt d) env s = Q d s := rfl
theorem okF_body {n : Nat} {b : DenS} {ds : List D} {st : Sto} {Q : D → Sto → Prop} (h : okS b (ds.map some ++ List.replicate (n - ds.length) none) st (kBody Q)) : okF (bodyF n b) ds st Q := by
  unfold okF bodyF
  rw [okO_bind]
  unfold okS at h
  revert h
  cases b (ds.map some ++ List.replicate (n - ds.length) none) st with
  | none => exact id
  | some p =>
    obtain ⟨fl, e, s⟩ := p
    intro h
    cases fl <;> exact h
def kPure (st : Sto) (Q : D → Sto → Prop) : D → Sto → Prop := fun d s => okO (valD 0 s d) (kRet st Q)
theorem k_pure {st s : Sto} {Q : D → Sto → Prop} {d : D} : kPure st Q d s = okO (valD 0 s d) (kRet st Q) := rfl
theorem okF_pure {F : Fn} {ds : List D} {st : Sto} {Q : D → Sto → Prop} (h : okRs 0 ds = true) (q : okF F ds [] (kPure st Q)) : okF (pureF F) ds st Q := by
  unfold okF pureF
  rw [if_pos h, okO_bind]
  unfold okF at q
  cases e : F ds [] with
  | none => rw [e] at q; exact q
  | some p =>
    rw [e] at q
    simp only [okO_some] at q ⊢
    rw [okO_map]
    exact q
def kTrunc (n : Nat) (Q : D → Sto → Prop) : D → Sto → Prop := fun d s => (s.take n).all (soR n) = true ∧ okO (valD n s d) (kRet (s.take n) Q)
theorem k_trunc {n : Nat} {s : Sto} {Q : D → Sto → Prop} {d : D} : kTrunc n Q d s = ((s.take n).all (soR n) = true ∧ okO (valD n s d) (kRet (s.take n) Q)) := rfl
theorem okF_trunc {F : Fn} {ds : List D} {st : Sto} {Q : D → Sto → Prop} (q : okF F ds st (kTrunc st.length Q)) : okF (truncF F) ds st Q := by
  unfold okF truncF
  rw [okO_bind]
  unfold okF at q
  cases e : F ds st with
  | none => rw [e] at q; exact q
  | some p =>
    rw [e] at q
    simp only [okO_some] at q ⊢
    unfold kTrunc at q
    rw [if_pos q.1, okO_map]
    exact q.2
def kEq (d : D) (st : Sto) : D → Sto → Prop := fun d' s => d' = d ∧ s = st
theorem k_eq {d : D} {st : Sto} : kEq d st d st := ⟨rfl, rfl⟩
theorem okF_to {F : Fn} {ds : List D} {st st' : Sto} {d : D} (h : okF F ds st (kEq d st')) : F ds st = some (d, st') := by
  unfold okF at h
  cases e : F ds st with
  | none => rw [e] at h; exact h.elim
  | some p =>
    rw [e] at h
    obtain ⟨d', s'⟩ := p
    obtain ⟨rfl, rfl⟩ := h
    rfl
theorem val_pd {n : Nat} {st : Sto} {d : D} (h : isPd d = true) : valD n st d = some d := by
  have h2 : okR n d = true := okR_pd h
  cases d with
  | ref m => unfold isPd at h; cases h
  | _ => unfold valD; exact if_pos h2
theorem val_bl {n : Nat} {st : Sto} {b : Bool} : valD n st (.bl b) = some (.bl b) := rfl
theorem val_int {n : Nat} {st : Sto} {b : Int} : valD n st (.int b) = some (.int b) := rfl
section
variable {Q : D → Sto → Prop} {d : D} {s : Sto}
theorem k_isi {T : String} : kIsi T Q d s = okO ((tyD (look s d)).bind fun t => kitB t T) fun b => Q (.bl b) s := rfl
theorem k_isi_int (h : isPd d = true) : kIsi "int" Q d s = Q (.bl (isIB d)) s := by rw [k_isi, isi_int h]; rfl
theorem k_isi_bool (h : isPd d = true) : kIsi "bool" Q d s = Q (.bl (isB d)) s := by rw [k_isi, isi_bool h]; rfl
theorem k_isi_tuple (h : isPd d = true) : kIsi "tuple" Q d s = Q (.bl (isTup d)) s := by rw [k_isi, isi_tuple h]; rfl
theorem k_isi_tuple_t {ds : List D} : kIsi "tuple" Q (.tup ds) s = Q (.bl true) s := by rw [k_isi, lk_tup]; show okO (kitB "tuple" "tuple") _ = _; rw [kit_tuple_tuple]; rfl
theorem k_isi_bool_b {b : Bool} : kIsi "bool" Q (.bl b) s = Q (.bl true) s := k_isi_bool rfl
theorem k_isi_int_i {i : Int} : kIsi "int" Q (.int i) s = Q (.bl true) s := k_isi_int rfl
theorem k_isi_bool_i {i : Int} : kIsi "bool" Q (.int i) s = Q (.bl false) s := k_isi_bool rfl
theorem k_isi_tuple_i {i : Int} : kIsi "tuple" Q (.int i) s = Q (.bl false) s := k_isi_tuple rfl
end
section
variable {α : Type} {it : DenI} {g : DenG} {t : DenT} {Gs : List Gn} {own : List Nat} {em : EmD α} {acc0 : α} {fin : FinD α} {env : Env} {st : Sto} {Q : D → Sto → Prop}
def kFin (fin : FinD α) (Q : D → Sto → Prop) : α × Sto → Prop := fun r => Q (fin r.1 r.2).1 (fin r.1 r.2).2
def kComp (g : DenG) (t : DenT) (Gs : List Gn) (own : List Nat) (em : EmD α) (acc0 : α) (fin : FinD α) (env : Env) (Q : D → Sto → Prop) : List D → Sto → Prop := fun ds s => okO (gnL g t (compL em Gs) ds (wipeE env own) s acc0) (kFin fin Q)
theorem k_comp {ds : List D} {s : Sto} : kComp g t Gs own em acc0 fin env Q ds s = okO (gnL g t (compL em Gs) ds (wipeE env own) s acc0) (kFin fin Q) := rfl
theorem ev_comp : okE (eComp it g t Gs own em acc0 fin) env st Q = okI it env st (kComp g t Gs own em acc0 fin env Q) := by
  unfold okE eComp okI kComp
  rw [okO_bind]
  cases it env st with
  | none => rfl
  | some p => simp only [okO_some, okO_bind]; rfl
end
section
variable {Q : D → Sto → Prop} {s : Sto} {ds : List D} {ks vs : List D}
theorem k_finL : kFin finL Q (ds, s) = Q (.lst ds) s := rfl
theorem k_finLR : kFin finLR Q (ds, s) = Q (.ref s.length) (s ++ [.lst ds]) := rfl
theorem k_finD : kFin finD Q ((ks, vs), s) = Q (.dct true ks vs) s := rfl
theorem k_finDR : kFin finDR Q ((ks, vs), s) = Q (.ref s.length) (s ++ [.dct true ks vs]) := rfl
theorem take_all {n : Nat} {st : Sto} (h : st.length = n) : st.take n = st := by rw [← h, List.take_length]
end
end Pv
namespace Pv
open PySem PySem.Spec PyProof.Rows L2
/-! ### data on which Python's == is sameness -/
mutual
def can : D → Bool
  | .non => true
  | .int _ => true
  | .str x => PyData.strOk x
  | .tup ds => cans ds
  | .bl _ => false
  | .lst _ => false
  | .scr _ => false
  | .dct _ _ _ => false
  | .set _ _ => false
  | .ref _ => false
def cans : List D → Bool
  | [] => true
  | d :: ds => can d && cans ds
end
mutual
def dep : D → Nat
  | .tup ds => deps ds + 1
  | .lst ds => deps ds + 1
  | _ => 0
def deps : List D → Nat
  | [] => 0
  | d :: ds => max (dep d) (deps ds)
end
theorem cans_all : ∀ {ds : List D}, cans ds = true ↔ ∀ d ∈ ds, can d = true
  | [] => ⟨fun _ _ h => by simp at h, fun _ => rfl⟩
  | d :: ds => by
    unfold cans
    rw [Bool.and_eq_true, cans_all]
    simp
theorem deps_le : ∀ {ds : List D} {n : Nat}, deps ds ≤ n ↔ ∀ d ∈ ds, dep d ≤ n
  | [], n => ⟨fun _ _ h => by simp at h, fun _ => Nat.zero_le _⟩
  | d :: ds, n => by
    unfold deps
    rw [Nat.max_le, deps_le]
    simp
mutual
theorem can_lay : ∀ {d : D}, can d = true → PyData.canLay0 (toPd d) = true
  | .non, _ => rfl
  | .int _, _ => rfl
  | .str x, h => by unfold can at h; simpa [toPd, PyData.canLay0] using h
  | .tup ds, h => by unfold can at h; simpa [toPd, PyData.canLay0] using cans_lay h
  | .bl _, h => by unfold can at h; cases h
  | .lst _, h => by unfold can at h; cases h
  | .scr _, h => by unfold can at h; cases h
  | .dct _ _ _, h => by unfold can at h; cases h
  | .set _ _, h => by unfold can at h; cases h
  | .ref _, h => by unfold can at h; cases h
theorem cans_lay : ∀ {ds : List D}, cans ds = true → PyData.canLayAll0 (toPds ds) = true
  | [], _ => rfl
  | d :: ds, h => by
    unfold cans at h
    obtain ⟨h1, h2⟩ := Bool.and_eq_true_iff.mp h
    simp [toPds, PyData.canLayAll0, can_lay h1, cans_lay h2]
end
mutual
theorem can_depth : ∀ {d : D}, can d = true → (toPd d).depth = dep d
  | .non, _ => rfl
  | .int _, _ => rfl
  | .str x, _ => rfl
  | .tup ds, h => by unfold can at h; simp [toPd, PyData.depth, dep, cans_depth h]
  | .bl _, h => by unfold can at h; cases h
  | .lst _, h => by unfold can at h; cases h
  | .scr _, h => by unfold can at h; cases h
  | .dct _ _ _, h => by unfold can at h; cases h
  | .set _ _, h => by unfold can at h; cases h
  | .ref _, h => by unfold can at h; cases h
theorem cans_depth : ∀ {ds : List D}, cans ds = true → PyData.depthAll (toPds ds) = deps ds
  | [], _ => rfl
  | d :: ds, h => by
    unfold cans at h
    obtain ⟨h1, h2⟩ := Bool.and_eq_true_iff.mp h
    simp [toPds, PyData.depthAll, deps, can_depth h1, cans_depth h2]
end
theorem can_shp {d : D} (h : can d = true) (hd : dep d ≤ 64) : shp d = true := by
  unfold shp SeqAt.shaped
  rw [can_lay h, can_depth h]
  simpa using hd
mutual
theorem can_eqv : ∀ {a b : D}, can a = true → can b = true → (PyData.eqv (toPd a) (toPd b) = true ↔ a = b)
  | .non, b, _, hb => by cases b <;> first | (unfold can at hb; cases hb; done) | simp [toPd, PyData.eqv]
  | .int i, b, _, hb => by cases b <;> first | (unfold can at hb; cases hb; done) | simp [toPd, PyData.eqv]
  | .str x, b, _, hb => by cases b <;> first | (unfold can at hb; cases hb; done) | simp [toPd, PyData.eqv]
  | .tup ds, b, ha, hb => by
    unfold can at ha
    cases b with
    | tup es =>
      unfold can at hb
      have q := cans_eqv ha hb
      simp only [toPd, PyData.eqv]
      rw [q]
      simp
    | _ => first | (unfold can at hb; cases hb; done) | simp [toPd, PyData.eqv]
  | .bl _, _, h, _ => by unfold can at h; cases h
  | .lst _, _, h, _ => by unfold can at h; cases h
  | .scr _, _, h, _ => by unfold can at h; cases h
  | .dct _ _ _, _, h, _ => by unfold can at h; cases h
  | .set _ _, _, h, _ => by unfold can at h; cases h
  | .ref _, _, h, _ => by unfold can at h; cases h
theorem cans_eqv : ∀ {as bs : List D}, cans as = true → cans bs = true → (PyData.eqvAll (toPds as) (toPds bs) = true ↔ as = bs)
  | [], [], _, _ => by simp [toPds, PyData.eqvAll]
  | [], _ :: _, _, _ => by simp [toPds, PyData.eqvAll]
  | _ :: _, [], _, _ => by simp [toPds, PyData.eqvAll]
  | a :: as, b :: bs, ha, hb => by
    unfold cans at ha hb
    obtain ⟨a1, a2⟩ := Bool.and_eq_true_iff.mp ha
    obtain ⟨b1, b2⟩ := Bool.and_eq_true_iff.mp hb
    simp only [toPds, PyData.eqvAll, Bool.and_eq_true]
    rw [can_eqv a1 b1, cans_eqv a2 b2]
    simp
end
theorem can_eq {a b : D} (ha : can a = true) (hb : can b = true) : eqD a b = true ↔ a = b := can_eqv ha hb
open Classical in
theorem eq_can {a b : D} (ha : can a = true) (hb : can b = true) (da : dep a ≤ 64) (db : dep b ≤ 64) : gEq a b = some (.bl (decide (a = b))) := by
  unfold gEq
  rw [if_pos ⟨can_shp ha da, can_shp hb db⟩]
  congr 2
  rw [Bool.eq_iff_iff, can_eq ha hb, decide_eq_true_eq]
open Classical in
theorem ne_can {a b : D} (ha : can a = true) (hb : can b = true) (da : dep a ≤ 64) (db : dep b ≤ 64) : gNe a b = some (.bl (!decide (a = b))) := by
  unfold gNe
  rw [if_pos ⟨can_shp ha da, can_shp hb db⟩]
  congr 2
  rw [Bool.eq_iff_iff]
  simp only [Bool.not_eq_true', decide_eq_false_iff_not]
  rw [← can_eq ha hb, Bool.not_eq_true]
theorem inD_can {x : D} {ds : List D} (hx : can x = true) (h : cans ds = true) : inD x ds = true ↔ x ∈ ds := by
  unfold inD
  rw [List.any_eq_true]
  constructor
  · rintro ⟨y, hy, e⟩
    rw [can_eq (cans_all.mp h y hy) hx] at e
    exact e ▸ hy
  · intro m
    exact ⟨x, m, (can_eq hx hx).mpr rfl⟩
open Classical in
theorem in_can_l {x : D} {ds : List D} (hx : can x = true) (hd : dep x ≤ 64) (h : cans ds = true) : gInA x (.lst ds) = some (.bl (decide (x ∈ ds))) := by
  have e : gInA x (.lst ds) = gIn x (.lst ds) := rfl
  rw [e]
  show (if shp x = true ∧ PyData.canLayAll0 (toPds ds) = true then some (D.bl (inD x ds)) else none) = _
  rw [if_pos ⟨can_shp hx hd, cans_lay h⟩]
  congr 2
  rw [Bool.eq_iff_iff, inD_can hx h, decide_eq_true_eq]
open Classical in
theorem in_can_t {x : D} {ds : List D} (hx : can x = true) (hd : dep x ≤ 64) (h : cans ds = true) : gInA x (.tup ds) = some (.bl (decide (x ∈ ds))) := by
  have e : gInA x (.tup ds) = gIn x (.tup ds) := rfl
  rw [e]
  show (if shp x = true ∧ PyData.canLayAll0 (toPds ds) = true then some (D.bl (inD x ds)) else none) = _
  rw [if_pos ⟨can_shp hx hd, cans_lay h⟩]
  congr 2
  rw [Bool.eq_iff_iff, inD_can hx h, decide_eq_true_eq]
open Classical in
theorem notin_can_l {x : D} {ds : List D} (hx : can x = true) (hd : dep x ≤ 64) (h : cans ds = true) : gNotInA x (.lst ds) = some (.bl (decide (x ∉ ds))) := by
  have e : gNotInA x (.lst ds) = (gInA x (.lst ds)).bind fun z => match z with | .bl b => some (.bl (!b)) | _ => none := rfl
  rw [e, in_can_l hx hd h]
  by_cases m : x ∈ ds <;> simp [m]
open Classical in
theorem notin_can_t {x : D} {ds : List D} (hx : can x = true) (hd : dep x ≤ 64) (h : cans ds = true) : gNotInA x (.tup ds) = some (.bl (decide (x ∉ ds))) := by
  have e : gNotInA x (.tup ds) = (gInA x (.tup ds)).bind fun z => match z with | .bl b => some (.bl (!b)) | _ => none := rfl
  rw [e, in_can_t hx hd h]
  by_cases m : x ∈ ds <;> simp [m]
/-! ### keys -/
mutual
theorem key_can : ∀ {d : D}, can d = true → ∃ nk, keyOf d = some nk ∧ nk.depth = dep d
  | .non, _ => ⟨_, rfl, rfl⟩
  | .int _, _ => ⟨_, rfl, rfl⟩
  | .str _, _ => ⟨_, rfl, rfl⟩
  | .tup ds, h => by
    unfold can at h
    obtain ⟨ks, e, d⟩ := keys_can h
    exact ⟨.tup ks, by rw [keyOf, e], by simp [NestedKey.depth, dep, d]⟩
  | .bl _, h => by unfold can at h; cases h
  | .lst _, h => by unfold can at h; cases h
  | .scr _, h => by unfold can at h; cases h
  | .dct _ _ _, h => by unfold can at h; cases h
  | .set _ _, h => by unfold can at h; cases h
  | .ref _, h => by unfold can at h; cases h
theorem keys_can : ∀ {ds : List D}, cans ds = true → ∃ ks, keysOf ds = some ks ∧ NestedKey.depthAll ks = deps ds
  | [], _ => ⟨[], rfl, rfl⟩
  | d :: ds, h => by
    unfold cans at h
    obtain ⟨h1, h2⟩ := Bool.and_eq_true_iff.mp h
    obtain ⟨k, e1, d1⟩ := key_can h1
    obtain ⟨ks, e2, d2⟩ := keys_can h2
    exact ⟨k :: ks, by rw [keysOf, e1, e2], by simp [NestedKey.depthAll, deps, d1, d2]⟩
end
mutual
theorem key_inj : ∀ {a b : D}, can a = true → can b = true → keyOf a = keyOf b → a = b
  | .non, b, _, hb, e => by
    cases b with
    | non => rfl
    | tup ds => unfold can at hb; obtain ⟨ks, h, _⟩ := keys_can hb; simp [keyOf, h] at e
    | _ => first | (unfold can at hb; cases hb; done) | simp [keyOf] at e
  | .int i, b, _, hb, e => by
    cases b with
    | int j => simp [keyOf] at e; rw [e]
    | tup ds => unfold can at hb; obtain ⟨ks, h, _⟩ := keys_can hb; simp [keyOf, h] at e
    | _ => first | (unfold can at hb; cases hb; done) | simp [keyOf] at e
  | .str x, b, _, hb, e => by
    cases b with
    | str y => simp [keyOf] at e; rw [e]
    | tup ds => unfold can at hb; obtain ⟨ks, h, _⟩ := keys_can hb; simp [keyOf, h] at e
    | _ => first | (unfold can at hb; cases hb; done) | simp [keyOf] at e
  | .tup ds, b, ha, hb, e => by
    unfold can at ha
    obtain ⟨ks, h, _⟩ := keys_can ha
    cases b with
    | tup es =>
      unfold can at hb
      obtain ⟨ls, h', _⟩ := keys_can hb
      have e : keysOf ds = keysOf es := by
        simp [keyOf, h, h'] at e
        rw [h, h', e]
      rw [keys_inj ha hb e]
    | _ => first | (unfold can at hb; cases hb; done) | simp [keyOf, h] at e
  | .bl _, _, h, _, _ => by unfold can at h; cases h
  | .lst _, _, h, _, _ => by unfold can at h; cases h
  | .scr _, _, h, _, _ => by unfold can at h; cases h
  | .dct _ _ _, _, h, _, _ => by unfold can at h; cases h
  | .set _ _, _, h, _, _ => by unfold can at h; cases h
  | .ref _, _, h, _, _ => by unfold can at h; cases h
theorem keys_inj : ∀ {as bs : List D}, cans as = true → cans bs = true → keysOf as = keysOf bs → as = bs
  | [], [], _, _, _ => rfl
  | [], b :: bs, _, hb, e => by
    obtain ⟨ks, h, _⟩ := keys_can hb
    rw [h] at e
    unfold keysOf at h
    split at h
    · cases h; simp [keysOf] at e
    · cases h
  | a :: as, [], ha, _, e => by
    obtain ⟨ks, h, _⟩ := keys_can ha
    rw [h] at e
    unfold keysOf at h
    split at h
    · cases h; simp [keysOf] at e
    · cases h
  | a :: as, b :: bs, ha, hb, e => by
    unfold cans at ha hb
    obtain ⟨a1, a2⟩ := Bool.and_eq_true_iff.mp ha
    obtain ⟨b1, b2⟩ := Bool.and_eq_true_iff.mp hb
    obtain ⟨k1, e1, _⟩ := key_can a1
    obtain ⟨k2, e2, _⟩ := key_can b1
    obtain ⟨l1, f1, _⟩ := keys_can a2
    obtain ⟨l2, f2, _⟩ := keys_can b2
    have q : some (k1 :: l1) = some (k2 :: l2) := by
      rw [keysOf, keysOf, e1, e2, f1, f2] at e
      exact e
    cases q
    rw [key_inj a1 b1 (by rw [e1, e2]), keys_inj a2 b2 (by rw [f1, f2])]
end
/-- a dict's keys: tuples of the kind, none twice -/
structure Ks (ks : List D) : Prop where
  all : ∀ k ∈ ks, can k = true ∧ isTup k = true ∧ dep k ≤ 8
theorem tkey_can {d : D} (h : can d = true) (t : isTup d = true) (hd : dep d ≤ 8) : ∃ nk, keyOf d = some nk ∧ tkey d = some nk := by
  obtain ⟨nk, e, hn⟩ := key_can h
  refine ⟨nk, e, ?_⟩
  unfold tkey
  rw [if_pos t, e]
  show (if nk.depth ≤ 8 then some nk else none) = _
  rw [if_pos (by rw [hn]; exact hd)]
theorem dHas_can {ks : List D} {d : D} {nk : NestedKey} (h : ∀ k ∈ ks, can k = true) (hd : can d = true) (e : keyOf d = some nk) : dHas ks nk = true ↔ d ∈ ks := by
  unfold dHas
  rw [List.any_eq_true]
  constructor
  · rintro ⟨k, hk, q⟩
    have q := of_decide_eq_true q
    rw [← key_inj (h k hk) hd (by rw [q, e])]; exact hk
  · intro m
    exact ⟨d, m, decide_eq_true e⟩
open Classical in
theorem in_can_d {ks vs : List D} {d : D} (h : ∀ k ∈ ks, can k = true) (hd : can d = true) (t : isTup d = true) (h8 : dep d ≤ 8) : gInA d (.dct true ks vs) = some (.bl (decide (d ∈ ks))) := by
  obtain ⟨nk, e1, e2⟩ := tkey_can hd t h8
  have e : gInA d (.dct true ks vs) = (tkey d).map fun nk => .bl (dHas ks nk) := rfl
  rw [e, e2]
  show some (D.bl (dHas ks nk)) = _
  congr 2
  rw [Bool.eq_iff_iff, dHas_can h hd e1, decide_eq_true_eq]
open Classical in
theorem notin_can_d {ks vs : List D} {d : D} (h : ∀ k ∈ ks, can k = true) (hd : can d = true) (t : isTup d = true) (h8 : dep d ≤ 8) : gNotInA d (.dct true ks vs) = some (.bl (decide (d ∉ ks))) := by
  have e : gNotInA d (.dct true ks vs) = (gInA d (.dct true ks vs)).bind fun z => match z with | .bl b => some (.bl (!b)) | _ => none := rfl
  rw [e, in_can_d h hd t h8]
  by_cases m : d ∈ ks <;> simp [m]
/-- a new key -/
theorem setA_new {st : Sto} {n : Nat} {ks vs : List D} {d z : D} (hs : st[n]? = some (.dct true ks vs)) (h : ∀ k ∈ ks, can k = true) (hd : can d = true) (t : isTup d = true) (h8 : dep d ≤ 8) (hl : ks.length < sizeLine) (m : d ∉ ks) :
    setA (.ref n) d z st = some (st.set n (.dct true (ks ++ [d]) (vs ++ [z]))) := by
  obtain ⟨nk, e1, e2⟩ := tkey_can hd t h8
  have hk : dHas ks nk = false := by
    rw [← Bool.not_eq_true]
    exact fun q => m ((dHas_can h hd e1).mp q)
  have e : setA (.ref n) d z st = setT (.ref n) d z st := by
    unfold setA
    have : setL (.ref n) d z st = none := by
      cases d with
      | tup ds => rfl
      | _ => cases t
    rw [this]
  rw [e]
  show (match st[n]? with
    | some (.dct true ks vs) => (tkey d).bind fun nk => if ks.length < sizeLine then some (st.set n (.dct true (dSet ks vs d nk z).1 (dSet ks vs d nk z).2)) else none
    | _ => none) = _
  rw [hs]
  dsimp only
  rw [e2, Option.bind_some, if_pos hl]
  unfold dSet
  rw [if_neg (by rw [hk]; exact Bool.false_ne_true)]
/-! ### tuples of ints -/
def nt (xs : List Int) : D := .tup (xs.map .int)
theorem nt_def (xs : List Int) : nt xs = .tup (xs.map .int) := rfl
theorem nt_can (xs : List Int) : can (nt xs) = true := by
  unfold nt can
  rw [cans_all]
  intro d hd
  obtain ⟨i, _, rfl⟩ := List.mem_map.mp hd
  rfl
theorem nt_dep (xs : List Int) : dep (nt xs) = 1 := by
  unfold nt dep
  have : deps (xs.map .int) ≤ 0 := by
    rw [deps_le]
    intro d hd
    obtain ⟨i, _, rfl⟩ := List.mem_map.mp hd
    exact Nat.le_refl _
  omega
theorem nt_tup (xs : List Int) : isTup (nt xs) = true := rfl
theorem nt_inj {xs ys : List Int} (h : nt xs = nt ys) : xs = ys := by
  have h : xs.map D.int = ys.map D.int := by
    unfold nt at h
    injection h
  induction xs generalizing ys with
  | nil =>
    cases ys with
    | nil => rfl
    | cons => simp at h
  | cons x xs ih =>
    cases ys with
    | nil => simp at h
    | cons y ys =>
      simp at h
      rw [h.1, ih (by unfold nt; rw [h.2]) h.2]
/-! ### pairs of ints -/
def n2 (p : Int × Int) : D := .tup [.int p.1, .int p.2]
theorem n2_def {a b : Int} : n2 (a, b) = .tup [.int a, .int b] := rfl
theorem n2_can (p : Int × Int) : can (n2 p) = true := rfl
theorem n2_dep (p : Int × Int) : dep (n2 p) = 1 := rfl
theorem n2_inj {p q : Int × Int} (h : n2 p = n2 q) : p = q := by
  unfold n2 at h
  injection h with h
  injection h with h1 h2
  injection h1 with h1
  injection h2 with h2
  injection h2 with h2
  exact Prod.ext h1 h2
theorem eq_n2 {p q : Int × Int} : gEq (n2 p) (n2 q) = some (.bl (decide (p = q))) := by
  classical
  rw [eq_can (n2_can p) (n2_can q) (by rw [n2_dep]; decide) (by rw [n2_dep]; decide)]
  congr 2
  rw [Bool.eq_iff_iff, decide_eq_true_eq, decide_eq_true_eq]
  exact ⟨n2_inj, fun e => e ▸ rfl⟩
theorem mem_n2 {p : Int × Int} {S : List (Int × Int)} : n2 p ∈ S.map n2 ↔ p ∈ S := by
  rw [List.mem_map]
  exact ⟨fun ⟨q, hq, e⟩ => n2_inj e ▸ hq, fun h => ⟨p, h, rfl⟩⟩
theorem tkey_n2 (p : Int × Int) : tkey (n2 p) = some (.tup [.num p.1, .num p.2]) := rfl
theorem notin_n2 {p : Int × Int} {S : List (Int × Int)} {vs : List D} : gNotInA (n2 p) (.dct true (S.map n2) vs) = some (.bl (decide (p ∉ S))) := by
  classical
  rw [notin_can_d (fun k hk => by obtain ⟨q, _, rfl⟩ := List.mem_map.mp hk; exact n2_can q) (n2_can p) rfl (by rw [n2_dep]; decide)]
  congr 2
  rw [Bool.eq_iff_iff, decide_eq_true_eq, decide_eq_true_eq, mem_n2]
theorem sort_n2 {S : List (Int × Int)} {vs : List D} : gSorted [.dct true (S.map n2) vs] = some (.lst (sortD (S.map n2))) := by
  show (if sortC (S.map n2) = true then some (D.lst (sortD (S.map n2))) else none) = _
  rw [if_pos]
  have fl : ∀ S : List (Int × Int), flatDs (S.map n2) = true := fun S => by
    induction S with
    | nil => rfl
    | cons p S ih => rw [List.map_cons]; unfold flatDs; rw [ih]; rfl
  unfold sortC
  simp only [Bool.and_eq_true]
  refine ⟨⟨⟨fl S, Bool.or_eq_true_iff.mpr (.inl ?_)⟩, ?_⟩, ?_⟩
  · refine List.all_eq_true.mpr fun d hd => ?_
    obtain ⟨p, _, rfl⟩ := List.mem_map.mp hd
    rfl
  · refine List.all_eq_true.mpr fun d hd => List.all_eq_true.mpr fun e he => ?_
    obtain ⟨p, _, rfl⟩ := List.mem_map.mp hd
    obtain ⟨q, _, rfl⟩ := List.mem_map.mp he
    simp [n2, toPd, toPds, PySem.W.alike, PySem.W.alikeAll]
  · refine List.all_eq_true.mpr fun d hd => ?_
    obtain ⟨p, _, rfl⟩ := List.mem_map.mp hd
    simp [n2, toPd, toPds, PyData.depth, PyData.depthAll]
theorem pds_n2 : ∀ S : List (Int × Int), isPds (S.map n2) = true
  | [] => rfl
  | p :: S => by rw [List.map_cons]; unfold isPds; rw [pds_n2 S]; rfl
end Pv
namespace Pv
open PySem PySem.Spec PyProof.Rows L2
abbrev ROW : PySem.W.OpenLaw := PySem.Challenge.rw_levelskins_k44_what_is_a_nest
def top (i : Nat) : Stmt := PySem.Challenge.pw_levelskins_k44_what_is_a_nest.main.body.getD i (.Pass ⟨0, 0, 0, 0⟩)
abbrev FnP (K : PySem.W.Frag) (x : Str) (st : Stmt) (f : Addr) (fd : FuncData) : Prop := FunD K x x (defArgs st) (defBody st) (defScope st) [] [] f fd
structure Fr (mg : Str → Option Value) : Prop where
  n_abs : mg "abs" = none
  n_all : mg "all" = none
  n_bool : mg "bool" = none
  n_int : mg "int" = none
  n_isinstance : mg "isinstance" = none
  n_len : mg "len" = none
  n_list : mg "list" = none
  n_max : mg "max" = none
  n_range : mg "range" = none
  n_sorted : mg "sorted" = none
  n_tuple : mg "tuple" = none
/-! ### is_number -/
abbrev s_is_number : Stmt := top 1
abbrev N_is_number : List Str := ["thing"]
theorem sc_is_number : FnScope N_is_number ["thing"] (defScope s_is_number) := ⟨rfl, rfl, rfl, by decide +kernel, rfl, by decide +kernel, by decide +kernel⟩
def b_is_number : DenS := (sRet (eAnd (eIsi "int" (eVar 0)) (eUn gNot (eIsi "bool" (eVar 0)))))
def F_is_number : Fn := pureF (bodyF N_is_number.length b_is_number)
theorem ok_is_number {P : Program} {w : World} {K : PySem.W.Frag} {mg : Str → Option Value} {base : Heap} {f : Addr} {fd : FuncData} (fr : Fr mg) (F : FnP K "is_number" s_is_number f fd) (hm : mg "is_number" = some (.ref f))   : FnOk P w K mg base C8.CX0 1 f fd ["thing"] (spF K w 1 (bodyF N_is_number.length b_is_number)) :=
  have sc := sc_is_number
  fn_body F sc rfl fun cdv A outer s H E hr =>
  (s_one (s_ret (d_and (d_isi (d_var (i := 0)) rfl fr.n_isinstance rfl fr.n_int bt_int) (d_one (d_not (d_isi (d_var (i := 0)) rfl fr.n_isinstance rfl fr.n_bool bt_bool))))))
theorem cl_is_number {P : Program} {w : World} {K : PySem.W.Frag} {mg : Str → Option Value} {base : Heap} {f : Addr} {fd : FuncData} (fr : Fr mg) (F : FnP K "is_number" s_is_number f fd) (hm : mg "is_number" = some (.ref f))   : C8.Cal P w K mg base 1 "is_number" (spF K w 1 F_is_number) [] :=
  cal_pure (fn_cal (ok_is_number fr F hm  ) hm F.kp (F.bindsN fun _ _ _ _ _ _ us hl => match us, hl with | [_], _ => rfl))
/-! ### is_pair -/
abbrev s_is_pair : Stmt := top 3
abbrev N_is_pair : List Str := ["highs", "lows", "thing"]
theorem sc_is_pair : FnScope N_is_pair ["highs", "lows", "thing"] (defScope s_is_pair) := ⟨rfl, rfl, rfl, by decide +kernel, rfl, by decide +kernel, by decide +kernel⟩
def b_is_pair : DenS := (sSeq (sIf (tOrT (tNotT (tTru (eIsi "tuple" (eVar 2)))) (tOrT (tOf (eBin gNe (eCall gLen [(eVar 2)]) (eC (.int 2)))) (tOrT (tNotT (tTru (eFn 1 F_is_number [(eBin gIxA (eVar 2) (eC (.int 0)))]))) (tNotT (tTru (eFn 1 F_is_number [(eBin gIxA (eVar 2) (eC (.int 1)))])))))) (sRet (eC (.bl false))) sNil)
  (sRet (eAnd ((eChain gLeI gLtI (eC (.int 0)) (eBin gIxA (eVar 2) (eC (.int 0))) (eVar 0))) ((eChain gLeI gLtI (eC (.int 0)) (eBin gIxA (eVar 2) (eC (.int 1))) (eVar 1))))))
def F_is_pair : Fn := pureF (bodyF N_is_pair.length b_is_pair)
theorem ok_is_pair {P : Program} {w : World} {K : PySem.W.Frag} {mg : Str → Option Value} {base : Heap} {f : Addr} {fd : FuncData} (fr : Fr mg) (F : FnP K "is_pair" s_is_pair f fd) (hm : mg "is_pair" = some (.ref f))  (cal_is_number : C8.Cal P w K mg base 1 "is_number" (spF K w 1 F_is_number) []) : FnOk P w K mg base C8.CX0 2 f fd ["highs", "lows", "thing"] (spF K w 3 (bodyF N_is_pair.length b_is_pair)) :=
  have sc := sc_is_pair
  fn_body F sc rfl fun cdv A outer s H E hr =>
  (s_cons (s_if (t_w (w_or (t_not (t_tru (d_isi (d_var (i := 2)) rfl fr.n_isinstance rfl fr.n_tuple bt_tuple))) (w_or (t_cmp (o_neA (room_u hr)) (d_callB (c_len) rfl fr.n_len bt_len (da_cons (d_var (i := 2)) da_nil)) d_int) (w_or (t_not (t_tru (d_call cal_is_number hr (by decide) rfl (da_cons (d_ixR (o_ixA (room_u hr)) (d_var (i := 2)) d_int) da_nil)))) (w_or1 (t_not (t_tru (d_call cal_is_number hr (by decide) rfl (da_cons (d_ixR (o_ixA (room_u hr)) (d_var (i := 2)) d_int) da_nil))))))))) (s_one (s_ret d_bl)) s_nil)
  (s_one (s_ret (d_and (d_chain o_le o_lt d_int (d_ixR (o_ixA (room_u hr)) (d_var (i := 2)) d_int) (d_var (i := 0))) (d_one (d_chain o_le o_lt d_int (d_ixR (o_ixA (room_u hr)) (d_var (i := 2)) d_int) (d_var (i := 1))))))))
theorem cl_is_pair {P : Program} {w : World} {K : PySem.W.Frag} {mg : Str → Option Value} {base : Heap} {f : Addr} {fd : FuncData} (fr : Fr mg) (F : FnP K "is_pair" s_is_pair f fd) (hm : mg "is_pair" = some (.ref f))  (cal_is_number : C8.Cal P w K mg base 1 "is_number" (spF K w 1 F_is_number) []) : C8.Cal P w K mg base 2 "is_pair" (spF K w 3 F_is_pair) [] :=
  cal_pure (fn_cal (ok_is_pair fr F hm  cal_is_number) hm F.kp (F.bindsN fun _ _ _ _ _ _ us hl => match us, hl with | [_, _, _], _ => rfl))
/-! ### reached_by -/
abbrev s_reached_by : Stmt := top 4
abbrev N_reached_by : List Str := ["pairs", "start", "seen", "left", "here", "high", "low", "one", "other"]
theorem sc_reached_by : FnScope N_reached_by ["pairs", "start"] (defScope s_reached_by) := ⟨rfl, rfl, rfl, by decide +kernel, rfl, by decide +kernel, by decide +kernel⟩
def b_reached_by_6 : DenS := (sIf (tAndT (tOf (eBin gEq (eVar 4) (eVar 7))) (tOf (eBin gNotInA (eVar 8) (eVar 2)))) (sSeq (sAsg (eC (.bl true)) (gSubD (eVar 2) (eVar 8) setA))
  (sExpr (eMethL mApp (eVar 3) [(eVar 8)]))) sNil)
def b_reached_by_5 : DenS := (sFor (iSeq (eTup [(eTup [(eTup [(eC (.int 0)), (eVar 5)]), (eTup [(eC (.int 1)), (eVar 6)])]), (eTup [(eTup [(eC (.int 1)), (eVar 6)]), (eTup [(eC (.int 0)), (eVar 5)])])])) (gTup 2 (gsCons (gNm 7) (gsCons (gNm 8) gsNil))) b_reached_by_6)
def b_reached_by_3 : DenS := (sSeq (sAsg (eMethL mPop (eVar 3) []) (gNm 4))
  (sFor (iSeq (eVar 0)) (gTup 2 (gsCons (gNm 5) (gsCons (gNm 6) gsNil))) b_reached_by_5))
def b_reached_by : DenS := (sSeq (sAsg (eDct1R (eVar 1) (eC (.bl true))) (gNm 2))
  (sSeq (sAsg (eLstR [(eVar 1)]) (gNm 3))
  (sSeq (sWhl fuel (tOf (eBin gGtI (eCall gLen [(eVar 3)]) (eC (.int 0)))) b_reached_by_3)
  (sRet (eCall gSorted [(eVar 2)])))))
def F_reached_by : Fn := pureF (bodyF N_reached_by.length b_reached_by)
theorem ok_reached_by {P : Program} {w : World} {K : PySem.W.Frag} {mg : Str → Option Value} {base : Heap} {f : Addr} {fd : FuncData} (fr : Fr mg) (F : FnP K "reached_by" s_reached_by f fd) (hm : mg "reached_by" = some (.ref f))   : FnOk P w K mg base C8.CX0 1 f fd ["pairs", "start"] (spF K w 2 (bodyF N_reached_by.length b_reached_by)) :=
  have sc := sc_reached_by
  fn_body F sc rfl fun cdv A outer s H E hr =>
  (s_cons (s_asg (d_dct1RA (room_u hr) (d_var (i := 1)) d_bl) (g_name (i := 2) sc.nd))
  (s_cons (s_asg (d_lstR (da_cons (d_var (i := 1)) da_nil)) (g_name (i := 3) sc.nd))
  (s_cons (s_whl (n := fuel) PassesOwn.never (t_cmp o_gt (d_callB (c_len) rfl fr.n_len bt_len (da_cons (d_var (i := 3)) da_nil)) d_int) (s_cons (s_asg (d_methL0 PySem.F.slot_list_pop PySem.F.type_list_pop m_pop (d_var (i := 3))) (g_name (i := 4) sc.nd))
  (s_one (s_for PassesOwn.never rfl (i_seq (d_var (i := 0))) (g_tup rfl (gs_cons (g_name (i := 5) sc.nd) (gs_cons (g_name (i := 6) sc.nd) gs_nil))) (s_one (s_for PassesOwn.never rfl (i_seq (d_tup (da_cons (d_tup (da_cons (d_tup (da_cons d_int (da_cons (d_var (i := 5)) da_nil))) (da_cons (d_tup (da_cons d_int (da_cons (d_var (i := 6)) da_nil))) da_nil))) (da_cons (d_tup (da_cons (d_tup (da_cons d_int (da_cons (d_var (i := 6)) da_nil))) (da_cons (d_tup (da_cons d_int (da_cons (d_var (i := 5)) da_nil))) da_nil))) da_nil)))) (g_tup rfl (gs_cons (g_name (i := 7) sc.nd) (gs_cons (g_name (i := 8) sc.nd) gs_nil))) (s_one (s_if (t_w (w_and (t_cmp (o_eqA (room_u hr)) (d_var (i := 4)) (d_var (i := 7))) (w_and1 (t_cmp (o_notinA (room_u hr)) (d_var (i := 8)) (d_var (i := 2)))))) (s_cons (s_asg d_bl (g_sub (o_setA (room_u hr)) (d_var (i := 2)) (d_var (i := 8))))
  (s_one (s_expr (d_methL PySem.F.slot_list_append PySem.F.type_list_append m_append (d_var (i := 3)) (da_cons (d_var (i := 8)) da_nil))))) s_nil))))))))
  (s_one (s_ret (d_callB (c_sorted rfl (room_u hr)) rfl fr.n_sorted bt_sorted (da_cons (d_var (i := 2)) da_nil)))))))
theorem cl_reached_by {P : Program} {w : World} {K : PySem.W.Frag} {mg : Str → Option Value} {base : Heap} {f : Addr} {fd : FuncData} (fr : Fr mg) (F : FnP K "reached_by" s_reached_by f fd) (hm : mg "reached_by" = some (.ref f))   : C8.Cal P w K mg base 1 "reached_by" (spF K w 2 F_reached_by) [] :=
  cal_pure (fn_cal (ok_reached_by fr F hm  ) hm F.kp (F.bindsN fun _ _ _ _ _ _ us hl => match us, hl with | [_, _], _ => rfl))
/-! ### nest_holds -/
abbrev s_nest_holds : Stmt := top 5
abbrev N_nest_holds : List Str := ["highs", "lows", "thing", "start", "pair"]
theorem sc_nest_holds : FnScope N_nest_holds ["highs", "lows", "thing"] (defScope s_nest_holds) := ⟨rfl, rfl, rfl, by decide +kernel, rfl, by decide +kernel, by decide +kernel⟩
def b_nest_holds : DenS := (sSeq (sIf (tOrT (tNotT (tTru (eIsi "tuple" (eVar 2)))) (tNotT (tTru (eCall gAll [(eComp (iSeq (eVar 2)) (gNm 4) tYesD [] [4] (emL (eFn 3 F_is_pair [(eVar 0), (eVar 1), (eVar 4)])) [] finL)])))) (sRet (eC (.bl false))) sNil)
  (sSeq (sIf (tOf (eBin gNe (eBin gAdd (eVar 0) (eVar 1)) (eBin gAdd (eCall gLen [(eVar 2)]) (eC (.int 1))))) (sRet (eC (.bl false))) sNil)
  (sSeq (sAsg (eIf (tOf (eBin gGtI (eVar 0) (eC (.int 0)))) (eTup [(eC (.int 0)), (eC (.int 0))]) (eTup [(eC (.int 1)), (eC (.int 0))])) (gNm 3))
  (sRet ((eBin gEq (eCall gLen [(eFn 2 F_reached_by [(eVar 2), (eVar 3)])]) (eBin gAdd (eVar 0) (eVar 1))))))))
def F_nest_holds : Fn := pureF (bodyF N_nest_holds.length b_nest_holds)
theorem ok_nest_holds {P : Program} {w : World} {K : PySem.W.Frag} {mg : Str → Option Value} {base : Heap} {f : Addr} {fd : FuncData} (fr : Fr mg) (F : FnP K "nest_holds" s_nest_holds f fd) (hm : mg "nest_holds" = some (.ref f))  (cal_is_pair : C8.Cal P w K mg base 2 "is_pair" (spF K w 3 F_is_pair) []) (cal_reached_by : C8.Cal P w K mg base 1 "reached_by" (spF K w 2 F_reached_by) []) : FnOk P w K mg base C8.CX0 3 f fd ["highs", "lows", "thing"] (spF K w 3 (bodyF N_nest_holds.length b_nest_holds)) :=
  have sc := sc_nest_holds
  fn_body F sc rfl fun cdv A outer s H E hr =>
  (s_cons (s_if (t_w (w_or (t_not (t_tru (d_isi (d_var (i := 2)) rfl fr.n_isinstance rfl fr.n_tuple bt_tuple))) (w_or1 (t_not (t_tru (d_callB (c_all rfl) rfl fr.n_all bt_all (da_cons (d_lc rfl sc.nd finL_ok (own := [("pair", 4)]) (own0 := [4]) (owns := []) (i_seq (d_var (i := 2))) (by rfl) (fun _ _ _ _ _ => (g_name (i := 4) sc.nd)) (fun _ _ _ _ _ => ts_nil) (fun _ _ _ _ _ => Cls.nil) (fun _ _ _ _ _ => (d_call cal_is_pair hr (by decide) rfl (da_cons (d_var (i := 0)) (da_cons (d_var (i := 1)) (da_cons (d_var (i := 4)) da_nil))))) (GOk.name (by decide))) da_nil))))))) (s_one (s_ret d_bl)) s_nil)
  (s_cons (s_if (t_cmp (o_neA (room_u hr)) (d_bin o_add (d_var (i := 0)) (d_var (i := 1))) (d_bin o_add (d_callB (c_len) rfl fr.n_len bt_len (da_cons (d_var (i := 2)) da_nil)) d_int)) (s_one (s_ret d_bl)) s_nil)
  (s_cons (s_asg (d_if (t_cmp o_gt (d_var (i := 0)) d_int) (d_tup (da_cons d_int (da_cons d_int da_nil))) (d_tup (da_cons d_int (da_cons d_int da_nil)))) (g_name (i := 3) sc.nd))
  (s_one (s_ret (d_cmp (o_eqA (room_u hr)) (d_callB (c_len) rfl fr.n_len bt_len (da_cons (d_call cal_reached_by hr (by decide) rfl (da_cons (d_var (i := 2)) (da_cons (d_var (i := 3)) da_nil))) da_nil)) (d_bin o_add (d_var (i := 0)) (d_var (i := 1)))))))))
theorem cl_nest_holds {P : Program} {w : World} {K : PySem.W.Frag} {mg : Str → Option Value} {base : Heap} {f : Addr} {fd : FuncData} (fr : Fr mg) (F : FnP K "nest_holds" s_nest_holds f fd) (hm : mg "nest_holds" = some (.ref f))  (cal_is_pair : C8.Cal P w K mg base 2 "is_pair" (spF K w 3 F_is_pair) []) (cal_reached_by : C8.Cal P w K mg base 1 "reached_by" (spF K w 2 F_reached_by) []) : C8.Cal P w K mg base 3 "nest_holds" (spF K w 3 F_nest_holds) [] :=
  cal_pure (fn_cal (ok_nest_holds fr F hm  cal_is_pair cal_reached_by) hm F.kp (F.bindsN fun _ _ _ _ _ _ us hl => match us, hl with | [_, _, _], _ => rfl))
/-! ### _law_deck -/
abbrev s__law_deck : Stmt := top 7
abbrev N__law_deck : List Str := ["_law_script", "_law_cell"]
theorem sc__law_deck : FnScope N__law_deck ["_law_script"] (defScope s__law_deck) := ⟨rfl, rfl, rfl, by decide +kernel, rfl, by decide +kernel, by decide +kernel⟩
def b__law_deck : DenS := (sRet (eLstR [(eComp (iSeq (eSl (eVar 0) none (some (eC (.int 63))))) (gNm 1) tYesD [] [1] (emL (eCall gAbs [(eVar 1)])) [] finLR), (eC (.int 0))]))
def F__law_deck : Fn := bodyF N__law_deck.length b__law_deck
theorem ok__law_deck {P : Program} {w : World} {K : PySem.W.Frag} {mg : Str → Option Value} {base : Heap} {f : Addr} {fd : FuncData} (fr : Fr mg) (F : FnP K "_law_deck" s__law_deck f fd) (hm : mg "_law_deck" = some (.ref f))   : FnOk P w K mg base C8.CX0 1 f fd ["_law_script"] (spF K w 1 (bodyF N__law_deck.length b__law_deck)) :=
  have sc := sc__law_deck
  fn_body F sc rfl fun cdv A outer s H E hr =>
  (s_one (s_ret (d_lstR (da_cons (d_lc rfl sc.nd finLR_ok (own := [("_law_cell", 1)]) (own0 := [1]) (owns := []) (i_seq (d_sl (d_var (i := 0)) do_none (do_some d_int))) (by rfl) (fun _ _ _ _ _ => (g_name (i := 1) sc.nd)) (fun _ _ _ _ _ => ts_nil) (fun _ _ _ _ _ => Cls.nil) (fun _ _ _ _ _ => (d_callB (c_abs) rfl fr.n_abs bt_abs (da_cons (d_var (i := 1)) da_nil))) (GOk.name (by decide))) (da_cons d_int da_nil)))))
theorem cl__law_deck {P : Program} {w : World} {K : PySem.W.Frag} {mg : Str → Option Value} {base : Heap} {f : Addr} {fd : FuncData} (fr : Fr mg) (F : FnP K "_law_deck" s__law_deck f fd) (hm : mg "_law_deck" = some (.ref f))   : C8.Cal P w K mg base 1 "_law_deck" (spF K w 1 F__law_deck) [] :=
  (fn_cal (ok__law_deck fr F hm  ) hm F.kp (F.bindsN fun _ _ _ _ _ _ us hl => match us, hl with | [_], _ => rfl))
/-! ### _law_draw -/
abbrev s__law_draw : Stmt := top 8
abbrev N__law_draw : List Str := ["_law_deck_here", "_law_many", "_law_cell", "_law_place"]
theorem sc__law_draw : FnScope N__law_draw ["_law_deck_here", "_law_many"] (defScope s__law_draw) := ⟨rfl, rfl, rfl, by decide +kernel, rfl, by decide +kernel, by decide +kernel⟩
def b__law_draw : DenS := (sSeq (sAsg (eBin gAdd (eBin gIxA (eVar 0) (eC (.int 1))) (eC (.int 1))) (gSubD (eVar 0) (eC (.int 1)) setA))
  (sSeq (sAsg (eC (.int 0)) (gNm 2))
  (sSeq (sAsg (eUn gNeg (eC (.int 1))) (gNm 3))
  (sSeq (sIf (tOf (eBin gGtI (eCall gLen [(eBin gIxA (eVar 0) (eC (.int 0)))]) (eC (.int 0)))) (sSeq (sAsg (eBin gMod (eBin gIxA (eVar 0) (eC (.int 1))) (eCall gLen [(eBin gIxA (eVar 0) (eC (.int 0)))])) (gNm 3))
  (sAsg (eBin gIxA (eBin gIxA (eVar 0) (eC (.int 0))) (eVar 3)) (gNm 2))) sNil)
  (sSeq (sIf (tOf (eBin gGeI (eVar 2) (eBin gPow (eC (.int 10)) (eC (.int 18))))) (sSeq (sAsg (eBin gDiv (eVar 2) (eVar 1)) (gSubD (eBin gIxA (eVar 0) (eC (.int 0))) (eVar 3) setA))
  (sRet (eBin gMod (eVar 2) (eVar 1)))) sNil)
  (sRet (eBin gMod (eBin gMod (eBin gPow (eBin gAdd (eBin gAdd (eBin gMod (eVar 2) (eC (.int 2147483587))) (eBin gMul (eC (.int 7919)) (eBin gIxA (eVar 0) (eC (.int 1))))) (eC (.int 1))) (eC (.int 5))) (eC (.int 2147483647))) (eVar 1))))))))
def F__law_draw : Fn := bodyF N__law_draw.length b__law_draw
theorem ok__law_draw {P : Program} {w : World} {K : PySem.W.Frag} {mg : Str → Option Value} {base : Heap} {f : Addr} {fd : FuncData} (fr : Fr mg) (F : FnP K "_law_draw" s__law_draw f fd) (hm : mg "_law_draw" = some (.ref f))   : FnOk P w K mg base C8.CX0 1 f fd ["_law_deck_here", "_law_many"] (spF K w 2 (bodyF N__law_draw.length b__law_draw)) :=
  have sc := sc__law_draw
  fn_body F sc rfl fun cdv A outer s H E hr =>
  (s_cons (s_asg (d_bin o_add (d_ixR (o_ixA (room_u hr)) (d_var (i := 0)) d_int) d_int) (g_sub (o_setA (room_u hr)) (d_var (i := 0)) d_int))
  (s_cons (s_asg d_int (g_name (i := 2) sc.nd))
  (s_cons (s_asg (d_un o_neg d_int) (g_name (i := 3) sc.nd))
  (s_cons (s_if (t_cmp o_gt (d_callB (c_len) rfl fr.n_len bt_len (da_cons (d_ixR (o_ixA (room_u hr)) (d_var (i := 0)) d_int) da_nil)) d_int) (s_cons (s_asg (d_bin o_mod (d_ixR (o_ixA (room_u hr)) (d_var (i := 0)) d_int) (d_callB (c_len) rfl fr.n_len bt_len (da_cons (d_ixR (o_ixA (room_u hr)) (d_var (i := 0)) d_int) da_nil))) (g_name (i := 3) sc.nd))
  (s_one (s_asg (d_ixR (o_ixA (room_u hr)) (d_ixR (o_ixA (room_u hr)) (d_var (i := 0)) d_int) (d_var (i := 3))) (g_name (i := 2) sc.nd)))) s_nil)
  (s_cons (s_if (t_cmp o_ge (d_var (i := 2)) (d_bin o_pow d_int d_int)) (s_cons (s_asg (d_bin o_div (d_var (i := 2)) (d_var (i := 1))) (g_sub (o_setA (room_u hr)) (d_ixR (o_ixA (room_u hr)) (d_var (i := 0)) d_int) (d_var (i := 3))))
  (s_one (s_ret (d_bin o_mod (d_var (i := 2)) (d_var (i := 1)))))) s_nil)
  (s_one (s_ret (d_bin o_mod (d_bin o_mod (d_bin o_pow (d_bin o_add (d_bin o_add (d_bin o_mod (d_var (i := 2)) d_int) (d_bin o_mul d_int (d_ixR (o_ixA (room_u hr)) (d_var (i := 0)) d_int))) d_int) d_int) d_int) (d_var (i := 1))))))))))
theorem cl__law_draw {P : Program} {w : World} {K : PySem.W.Frag} {mg : Str → Option Value} {base : Heap} {f : Addr} {fd : FuncData} (fr : Fr mg) (F : FnP K "_law_draw" s__law_draw f fd) (hm : mg "_law_draw" = some (.ref f))   : C8.Cal P w K mg base 1 "_law_draw" (spF K w 2 F__law_draw) [] :=
  (fn_cal (ok__law_draw fr F hm  ) hm F.kp (F.bindsN fun _ _ _ _ _ _ us hl => match us, hl with | [_, _], _ => rfl))
/-! ### _law_odd -/
abbrev s__law_odd : Stmt := top 9
abbrev N__law_odd : List Str := ["_law_deck_here", "_law_some"]
theorem sc__law_odd : FnScope N__law_odd ["_law_deck_here"] (defScope s__law_odd) := ⟨rfl, rfl, rfl, by decide +kernel, rfl, by decide +kernel, by decide +kernel⟩
def b__law_odd : DenS := (sSeq (sAsg (eLst [(eC .non), (eC (.bl true)), (eC (.bl false)), (eUn gNeg (eC (.int 1))), (eC (.int 0)), (eC (.int 2)), (eC (.int 13)), (eBin gPow (eC (.int 10)) (eC (.int 30))), (eC (.str "")), (eC (.str "a")), (eTup []), (eTup [(eC (.int 0))]), (eTup [(eC (.int 0)), (eC (.int 0)), (eC (.int 0))]), (eLst []), (eLst [(eC (.int 0))]), (eTup [(eTup [(eC (.int 0)), (eC (.int 0)), (eC (.int 0))]), (eTup [(eC (.int 0)), (eC (.int 0)), (eC (.int 0))])])]) (gNm 1))
  (sRet (eBin gIxA (eVar 1) (eFn 2 F__law_draw [(eVar 0), (eC (.int 16))]))))
def F__law_odd : Fn := bodyF N__law_odd.length b__law_odd
theorem ok__law_odd {P : Program} {w : World} {K : PySem.W.Frag} {mg : Str → Option Value} {base : Heap} {f : Addr} {fd : FuncData} (fr : Fr mg) (F : FnP K "_law_odd" s__law_odd f fd) (hm : mg "_law_odd" = some (.ref f))  (cal__law_draw : C8.Cal P w K mg base 1 "_law_draw" (spF K w 2 F__law_draw) []) : FnOk P w K mg base C8.CX0 2 f fd ["_law_deck_here"] (spF K w 1 (bodyF N__law_odd.length b__law_odd)) :=
  have sc := sc__law_odd
  fn_body F sc rfl fun cdv A outer s H E hr =>
  (s_cons (s_asg (d_lst (da_cons d_non (da_cons d_bl (da_cons d_bl (da_cons (d_un o_neg d_int) (da_cons d_int (da_cons d_int (da_cons d_int (da_cons (d_bin o_pow d_int d_int) (da_cons d_str (da_cons d_str (da_cons (d_tup da_nil) (da_cons (d_tup (da_cons d_int da_nil)) (da_cons (d_tup (da_cons d_int (da_cons d_int (da_cons d_int da_nil)))) (da_cons (d_lst da_nil) (da_cons (d_lst (da_cons d_int da_nil)) (da_cons (d_tup (da_cons (d_tup (da_cons d_int (da_cons d_int (da_cons d_int da_nil)))) (da_cons (d_tup (da_cons d_int (da_cons d_int (da_cons d_int da_nil)))) da_nil))) da_nil))))))))))))))))) (g_name (i := 1) sc.nd))
  (s_one (s_ret (d_ixR (o_ixA (room_u hr)) (d_var (i := 1)) (d_call cal__law_draw hr (by decide) rfl (da_cons (d_var (i := 0)) (da_cons d_int da_nil)))))))
theorem cl__law_odd {P : Program} {w : World} {K : PySem.W.Frag} {mg : Str → Option Value} {base : Heap} {f : Addr} {fd : FuncData} (fr : Fr mg) (F : FnP K "_law_odd" s__law_odd f fd) (hm : mg "_law_odd" = some (.ref f))  (cal__law_draw : C8.Cal P w K mg base 1 "_law_draw" (spF K w 2 F__law_draw) []) : C8.Cal P w K mg base 2 "_law_odd" (spF K w 1 F__law_odd) [] :=
  (fn_cal (ok__law_odd fr F hm  cal__law_draw) hm F.kp (F.bindsN fun _ _ _ _ _ _ us hl => match us, hl with | [_], _ => rfl))
/-! ### _law_bent -/
abbrev s__law_bent : Stmt := top 10
abbrev N__law_bent : List Str := ["_law_deck_here", "_law_thing", "_law_deep", "_law_way", "_law_at", "_law_more"]
theorem sc__law_bent : FnScope N__law_bent ["_law_deck_here", "_law_thing", "_law_deep"] (defScope s__law_bent) := ⟨rfl, rfl, rfl, by decide +kernel, rfl, by decide +kernel, by decide +kernel⟩
def b__law_bent_t8 : DenS := (sSeq (sIf (tAndT (tTru (eIsi "int" (eVar 1))) (tAndT (tNotT (tTru (eIsi "bool" (eVar 1)))) (tOf (eBin gGtI (eVar 3) (eC (.int 0)))))) (sRet (eBin gIxA (eLst [(eBin gAdd (eVar 1) (eC (.int 1))), (eBin gSub (eVar 1) (eC (.int 1))), (eBin gAdd (eVar 1) (eC (.int 4))), (eC (.int 0)), (eUn gNeg (eVar 1))]) (eFn 2 F__law_draw [(eVar 0), (eC (.int 5))]))) sNil)
  (sRet (eFn 1 F__law_odd [(eVar 0)])))
def b__law_bent_t4 : DenS := (sSeq (sAsg (eFn 2 F__law_draw [(eVar 0), (eC (.int 5))]) (gNm 3))
  (sSeq (sIf (tAndT (tTru (eIsi "tuple" (eVar 1))) (tOf (eBin gGtI (eVar 3) (eC (.int 0))))) (sSeq (sAsg (eLst [(eBin gAdd (eVar 1) (eTup [(eFn 1 F__law_odd [(eVar 0)])])), (eSl (eVar 1) none (some (eUn gNeg (eC (.int 1))))), (eRev (eVar 1)), (eBin gAdd (eVar 1) (eSl (eVar 1) (some (eUn gNeg (eC (.int 1)))) none)), (eBin gAdd (eSl (eVar 1) (some (eC (.int 1))) none) (eSl (eVar 1) none (some (eC (.int 1)))))]) (gNm 5))
  (sRet (eBin gIxA (eBin gAdd (eLst [(eCall gList [(eVar 1)])]) (eVar 5)) (eFn 2 F__law_draw [(eVar 0), (eC (.int 6))])))) sNil)
  b__law_bent_t8))
def b__law_bent (R : Fn) : DenS := (sSeq (sIf (tAndT (tTru (eIsi "tuple" (eVar 1))) (tAndT (tOf (eBin gGtI (eCall gLen [(eVar 1)]) (eC (.int 0)))) (tAndT (tOf (eBin gGtI (eVar 2) (eC (.int 0)))) (tOf (eBin gGtI (eFn 2 F__law_draw [(eVar 0), (eC (.int 6))]) (eC (.int 0))))))) (sSeq (sAsg (eFn 2 F__law_draw [(eVar 0), (eCall gLen [(eVar 1)])]) (gNm 4))
  (sRet (eBin gAdd (eBin gAdd (eSl (eVar 1) none (some (eVar 4))) (eTup [(eFn 3 R [(eVar 0), (eBin gIxA (eVar 1) (eVar 4)), (eBin gSub (eVar 2) (eC (.int 1)))])])) (eSl (eVar 1) (some (eBin gAdd (eVar 4) (eC (.int 1)))) none)))) sNil)
  b__law_bent_t4)
def F__law_bent : Nat → Fn
  | 0 => fun _ _ => none
  | n + 1 => truncF (bodyF N__law_bent.length (b__law_bent (F__law_bent n)))
theorem ok__law_bent {P : Program} {w : World} {K : PySem.W.Frag} {mg : Str → Option Value} {base : Heap} {f : Addr} {fd : FuncData} {k : Nat} {R : Fn} (hk : 2 ≤ k) (fr : Fr mg) (F : FnP K "_law_bent" s__law_bent f fd) (hm : mg "_law_bent" = some (.ref f))  (cal__law_draw : C8.Cal P w K mg base 1 "_law_draw" (spF K w 2 F__law_draw) []) (cal__law_odd : C8.Cal P w K mg base 2 "_law_odd" (spF K w 1 F__law_odd) []) (cR : C8.Cal P w K mg base k "_law_bent" (spF K w 3 R) []) : FnOk P w K mg base C8.CX0 (k + 1) f fd ["_law_deck_here", "_law_thing", "_law_deep"] (spF K w 3 (bodyF N__law_bent.length (b__law_bent R))) :=
  have sc := sc__law_bent
  fn_body F sc rfl fun cdv A outer s H E hr =>
  (s_cons (s_if (t_w (w_and (t_tru (d_isi (d_var (i := 1)) rfl fr.n_isinstance rfl fr.n_tuple bt_tuple)) (w_and (t_cmp o_gt (d_callB (c_len) rfl fr.n_len bt_len (da_cons (d_var (i := 1)) da_nil)) d_int) (w_and (t_cmp o_gt (d_var (i := 2)) d_int) (w_and1 (t_cmp o_gt (d_call cal__law_draw hr (by omega) rfl (da_cons (d_var (i := 0)) (da_cons d_int da_nil))) d_int)))))) (s_cons (s_asg (d_call cal__law_draw hr (by omega) rfl (da_cons (d_var (i := 0)) (da_cons (d_callB (c_len) rfl fr.n_len bt_len (da_cons (d_var (i := 1)) da_nil)) da_nil))) (g_name (i := 4) sc.nd))
  (s_one (s_ret (d_bin o_add (d_bin o_add (d_sl (d_var (i := 1)) do_none (do_some (d_var (i := 4)))) (d_tup (da_cons (d_call cR hr (Nat.le_refl _) rfl (da_cons (d_var (i := 0)) (da_cons (d_ixR (o_ixA (room_u hr)) (d_var (i := 1)) (d_var (i := 4))) (da_cons (d_bin o_sub (d_var (i := 2)) d_int) da_nil)))) da_nil))) (d_sl (d_var (i := 1)) (do_some (d_bin o_add (d_var (i := 4)) d_int)) do_none))))) s_nil)
  (s_cons (s_asg (d_call cal__law_draw hr (by omega) rfl (da_cons (d_var (i := 0)) (da_cons d_int da_nil))) (g_name (i := 3) sc.nd))
  (s_cons (s_if (t_w (w_and (t_tru (d_isi (d_var (i := 1)) rfl fr.n_isinstance rfl fr.n_tuple bt_tuple)) (w_and1 (t_cmp o_gt (d_var (i := 3)) d_int)))) (s_cons (s_asg (d_lst (da_cons (d_bin o_add (d_var (i := 1)) (d_tup (da_cons (d_call cal__law_odd hr (by omega) rfl (da_cons (d_var (i := 0)) da_nil)) da_nil))) (da_cons (d_sl (d_var (i := 1)) do_none (do_some (d_un o_neg d_int))) (da_cons (d_rev (d_var (i := 1))) (da_cons (d_bin o_add (d_var (i := 1)) (d_sl (d_var (i := 1)) (do_some (d_un o_neg d_int)) do_none)) (da_cons (d_bin o_add (d_sl (d_var (i := 1)) (do_some d_int) do_none) (d_sl (d_var (i := 1)) do_none (do_some d_int))) da_nil)))))) (g_name (i := 5) sc.nd))
  (s_one (s_ret (d_ixR (o_ixA (room_u hr)) (d_bin o_add (d_lst (da_cons (d_callTy c_list rfl fr.n_list bt_list (da_cons (d_var (i := 1)) da_nil)) da_nil)) (d_var (i := 5))) (d_call cal__law_draw hr (by omega) rfl (da_cons (d_var (i := 0)) (da_cons d_int da_nil))))))) s_nil)
  (s_cons (s_if (t_w (w_and (t_tru (d_isi (d_var (i := 1)) rfl fr.n_isinstance rfl fr.n_int bt_int)) (w_and (t_not (t_tru (d_isi (d_var (i := 1)) rfl fr.n_isinstance rfl fr.n_bool bt_bool))) (w_and1 (t_cmp o_gt (d_var (i := 3)) d_int))))) (s_one (s_ret (d_ixR (o_ixA (room_u hr)) (d_lst (da_cons (d_bin o_add (d_var (i := 1)) d_int) (da_cons (d_bin o_sub (d_var (i := 1)) d_int) (da_cons (d_bin o_add (d_var (i := 1)) d_int) (da_cons d_int (da_cons (d_un o_neg (d_var (i := 1))) da_nil)))))) (d_call cal__law_draw hr (by omega) rfl (da_cons (d_var (i := 0)) (da_cons d_int da_nil)))))) s_nil)
  (s_one (s_ret (d_call cal__law_odd hr (by omega) rfl (da_cons (d_var (i := 0)) da_nil))))))))
theorem cl__law_bent {P : Program} {w : World} {K : PySem.W.Frag} {mg : Str → Option Value} {base : Heap} {f : Addr} {fd : FuncData} (fr : Fr mg) (F : FnP K "_law_bent" s__law_bent f fd) (hm : mg "_law_bent" = some (.ref f))  (cal__law_draw : C8.Cal P w K mg base 1 "_law_draw" (spF K w 2 F__law_draw) []) (cal__law_odd : C8.Cal P w K mg base 2 "_law_odd" (spF K w 1 F__law_odd) []) : ∀ n : Nat, C8.Cal P w K mg base (2 + n) "_law_bent" (spF K w 3 (F__law_bent n)) []
  | 0 => fn_cal (ps := ["_law_deck_here", "_law_thing", "_law_deep"]) (fn_none rfl) hm F.kp (F.bindsN fun _ _ _ _ _ _ us hl => match us, hl with | [_, _, _], _ => rfl)
  | n + 1 => cal_trunc (fn_cal (ok__law_bent (Nat.le_add_right _ _) fr F hm  cal__law_draw cal__law_odd (cl__law_bent fr F hm  cal__law_draw cal__law_odd n)) hm F.kp (F.bindsN fun _ _ _ _ _ _ us hl => match us, hl with | [_, _, _], _ => rfl))
/-! ### _law_whole -/
abbrev s__law_whole : Stmt := top 11
abbrev N__law_whole : List Str := ["_law_thing"]
theorem sc__law_whole : FnScope N__law_whole ["_law_thing"] (defScope s__law_whole) := ⟨rfl, rfl, rfl, by decide +kernel, rfl, by decide +kernel, by decide +kernel⟩
def b__law_whole : DenS := (sRet (eAnd (eIsi "int" (eVar 0)) (eUn gNot (eIsi "bool" (eVar 0)))))
def F__law_whole : Fn := pureF (bodyF N__law_whole.length b__law_whole)
theorem ok__law_whole {P : Program} {w : World} {K : PySem.W.Frag} {mg : Str → Option Value} {base : Heap} {f : Addr} {fd : FuncData} (fr : Fr mg) (F : FnP K "_law_whole" s__law_whole f fd) (hm : mg "_law_whole" = some (.ref f))   : FnOk P w K mg base C8.CX0 1 f fd ["_law_thing"] (spF K w 1 (bodyF N__law_whole.length b__law_whole)) :=
  have sc := sc__law_whole
  fn_body F sc rfl fun cdv A outer s H E hr =>
  (s_one (s_ret (d_and (d_isi (d_var (i := 0)) rfl fr.n_isinstance rfl fr.n_int bt_int) (d_one (d_not (d_isi (d_var (i := 0)) rfl fr.n_isinstance rfl fr.n_bool bt_bool))))))
theorem cl__law_whole {P : Program} {w : World} {K : PySem.W.Frag} {mg : Str → Option Value} {base : Heap} {f : Addr} {fd : FuncData} (fr : Fr mg) (F : FnP K "_law_whole" s__law_whole f fd) (hm : mg "_law_whole" = some (.ref f))   : C8.Cal P w K mg base 1 "_law_whole" (spF K w 1 F__law_whole) [] :=
  cal_pure (fn_cal (ok__law_whole fr F hm  ) hm F.kp (F.bindsN fun _ _ _ _ _ _ us hl => match us, hl with | [_], _ => rfl))
/-! ### _law_tree -/
abbrev s__law_tree : Stmt := top 12
abbrev N__law_tree : List Str := ["_law_deck_here", "_law_counts_by", "_law_pairs", "_law_k", "_law_kind", "_law_other", "_law_own"]
theorem sc__law_tree : FnScope N__law_tree ["_law_deck_here"] (defScope s__law_tree) := ⟨rfl, rfl, rfl, by decide +kernel, rfl, by decide +kernel, by decide +kernel⟩
def b__law_tree_t9 : DenS := (sSeq (sAsg (eFn 2 F__law_draw [(eVar 0), (eBin gIxA (eVar 1) (eBin gSub (eC (.int 1)) (eVar 4)))]) (gNm 5))
  (sSeq (sAsg (eBin gIxA (eVar 1) (eVar 4)) (gNm 6))
  (sSeq (sAsg (eBin gAdd (eVar 6) (eC (.int 1))) (gSubD (eVar 1) (eVar 4) setA))
  (sExpr (eMethL mIns (eVar 2) [(eFn 2 F__law_draw [(eVar 0), (eBin gAdd (eCall gLen [(eVar 2)]) (eC (.int 1)))]), (eBin gIxA (eLst [(eTup [(eVar 6), (eVar 5)]), (eTup [(eVar 5), (eVar 6)])]) (eVar 4))])))))
def b__law_tree_5 : DenS := (sSeq (sAsg (eFn 2 F__law_draw [(eVar 0), (eC (.int 2))]) (gNm 4))
  (sSeq (sIf (tOf (eBin gEq (eBin gIxA (eVar 1) (eBin gSub (eC (.int 1)) (eVar 4))) (eC (.int 0)))) (sAsg (eBin gSub (eC (.int 1)) (eVar 4)) (gNm 4)) sNil)
  b__law_tree_t9))
def b__law_tree : DenS := (sSeq (sAsg (eLstR [(eC (.int 1)), (eC (.int 0))]) (gNm 1))
  (sSeq (sIf (tOf (eBin gEq (eFn 2 F__law_draw [(eVar 0), (eC (.int 2))]) (eC (.int 0)))) (sAsg (eLstR [(eC (.int 0)), (eC (.int 1))]) (gNm 1)) sNil)
  (sSeq (sAsg (eLstR []) (gNm 2))
  (sSeq (sFor (iRange [(eFn 2 F__law_draw [(eVar 0), (eC (.int 7))])]) (gNm 3) b__law_tree_5)
  (sRet (eLst [(eBin gIxA (eVar 1) (eC (.int 0))), (eBin gIxA (eVar 1) (eC (.int 1))), (eCall gTuple [(eVar 2)])]))))))
def F__law_tree : Fn := truncF (bodyF N__law_tree.length b__law_tree)
theorem ok__law_tree {P : Program} {w : World} {K : PySem.W.Frag} {mg : Str → Option Value} {base : Heap} {f : Addr} {fd : FuncData} (fr : Fr mg) (F : FnP K "_law_tree" s__law_tree f fd) (hm : mg "_law_tree" = some (.ref f))  (cal__law_draw : C8.Cal P w K mg base 1 "_law_draw" (spF K w 2 F__law_draw) []) : FnOk P w K mg base C8.CX0 2 f fd ["_law_deck_here"] (spF K w 1 (bodyF N__law_tree.length b__law_tree)) :=
  have sc := sc__law_tree
  fn_body F sc rfl fun cdv A outer s H E hr =>
  (s_cons (s_asg (d_lstR (da_cons d_int (da_cons d_int da_nil))) (g_name (i := 1) sc.nd))
  (s_cons (s_if (t_cmp (o_eqA (room_u hr)) (d_call cal__law_draw hr (by decide) rfl (da_cons (d_var (i := 0)) (da_cons d_int da_nil))) d_int) (s_one (s_asg (d_lstR (da_cons d_int (da_cons d_int da_nil))) (g_name (i := 1) sc.nd))) s_nil)
  (s_cons (s_asg (d_lstR da_nil) (g_name (i := 2) sc.nd))
  (s_cons (s_for PassesOwn.never rfl (i_range1 rfl fr.n_range (da_cons (d_call cal__law_draw hr (by decide) rfl (da_cons (d_var (i := 0)) (da_cons d_int da_nil))) da_nil)) (g_name (i := 3) sc.nd) (s_cons (s_asg (d_call cal__law_draw hr (by decide) rfl (da_cons (d_var (i := 0)) (da_cons d_int da_nil))) (g_name (i := 4) sc.nd))
  (s_cons (s_if (t_cmp (o_eqA (room_u hr)) (d_ixR (o_ixA (room_u hr)) (d_var (i := 1)) (d_bin o_sub d_int (d_var (i := 4)))) d_int) (s_one (s_asg (d_bin o_sub d_int (d_var (i := 4))) (g_name (i := 4) sc.nd))) s_nil)
  (s_cons (s_asg (d_call cal__law_draw hr (by decide) rfl (da_cons (d_var (i := 0)) (da_cons (d_ixR (o_ixA (room_u hr)) (d_var (i := 1)) (d_bin o_sub d_int (d_var (i := 4)))) da_nil))) (g_name (i := 5) sc.nd))
  (s_cons (s_asg (d_ixR (o_ixA (room_u hr)) (d_var (i := 1)) (d_var (i := 4))) (g_name (i := 6) sc.nd))
  (s_cons (s_asg (d_bin o_add (d_var (i := 6)) d_int) (g_sub (o_setA (room_u hr)) (d_var (i := 1)) (d_var (i := 4))))
  (s_one (s_expr (d_methL PySem.F.slot_list_insert PySem.F.type_list_insert m_insert (d_var (i := 2)) (da_cons (d_call cal__law_draw hr (by decide) rfl (da_cons (d_var (i := 0)) (da_cons (d_bin o_add (d_callB (c_len) rfl fr.n_len bt_len (da_cons (d_var (i := 2)) da_nil)) d_int) da_nil))) (da_cons (d_ixR (o_ixA (room_u hr)) (d_lst (da_cons (d_tup (da_cons (d_var (i := 6)) (da_cons (d_var (i := 5)) da_nil))) (da_cons (d_tup (da_cons (d_var (i := 5)) (da_cons (d_var (i := 6)) da_nil))) da_nil))) (d_var (i := 4))) da_nil)))))))))))
  (s_one (s_ret (d_lst (da_cons (d_ixR (o_ixA (room_u hr)) (d_var (i := 1)) d_int) (da_cons (d_ixR (o_ixA (room_u hr)) (d_var (i := 1)) d_int) (da_cons (d_callTy c_tuple rfl fr.n_tuple bt_tuple (da_cons (d_var (i := 2)) da_nil)) da_nil))))))))))
theorem cl__law_tree {P : Program} {w : World} {K : PySem.W.Frag} {mg : Str → Option Value} {base : Heap} {f : Addr} {fd : FuncData} (fr : Fr mg) (F : FnP K "_law_tree" s__law_tree f fd) (hm : mg "_law_tree" = some (.ref f))  (cal__law_draw : C8.Cal P w K mg base 1 "_law_draw" (spF K w 2 F__law_draw) []) : C8.Cal P w K mg base 2 "_law_tree" (spF K w 1 F__law_tree) [] :=
  cal_trunc (fn_cal (ok__law_tree fr F hm  cal__law_draw) hm F.kp (F.bindsN fun _ _ _ _ _ _ us hl => match us, hl with | [_], _ => rfl))
/-! ### _law_is_nest -/
abbrev s__law_is_nest : Stmt := top 13
abbrev N__law_is_nest : List Str := ["_law_highs", "_law_lows", "_law_thing", "_law_pair", "_law_marks", "_law_seen", "_law_time", "_law_high", "_law_low", "_law_k", "_law_one"]
theorem sc__law_is_nest : FnScope N__law_is_nest ["_law_highs", "_law_lows", "_law_thing"] (defScope s__law_is_nest) := ⟨rfl, rfl, rfl, by decide +kernel, rfl, by decide +kernel, by decide +kernel⟩
def b__law_is_nest_3 : DenS := (sSeq (sIf (tOrT (tNotT (tTru (eIsi "tuple" (eVar 3)))) (tOrT (tOf (eBin gNe (eCall gLen [(eVar 3)]) (eC (.int 2)))) (tOf (eBin gNe (eComp (iSeq (eVar 3)) (gNm 10) (tNotT (tTru (eFn 1 F__law_whole [(eVar 10)]))) [] [10] (emL (eVar 10)) [] finL) (eLst []))))) (sRet (eC (.bl false))) sNil)
  (sIf (tOrT (tNotT (tOf (eChain gLeI gLtI (eC (.int 0)) (eBin gIxA (eVar 3) (eC (.int 0))) (eVar 0)))) (tNotT (tOf (eChain gLeI gLtI (eC (.int 0)) (eBin gIxA (eVar 3) (eC (.int 1))) (eVar 1))))) (sRet (eC (.bl false))) sNil))
def b__law_is_nest_11 : DenS := (sSeq (sIf (tAndT (tOf (eBin gInA (eTup [(eC (.str "high")), (eVar 7)]) (eVar 5))) (tOf (eBin gNotInA (eTup [(eC (.str "low")), (eVar 8)]) (eVar 5)))) (sExpr (eMethL mApp (eVar 5) [(eTup [(eC (.str "low")), (eVar 8)])])) sNil)
  (sIf (tAndT (tOf (eBin gInA (eTup [(eC (.str "low")), (eVar 8)]) (eVar 5))) (tOf (eBin gNotInA (eTup [(eC (.str "high")), (eVar 7)]) (eVar 5)))) (sExpr (eMethL mApp (eVar 5) [(eTup [(eC (.str "high")), (eVar 7)])])) sNil))
def b__law_is_nest_10 : DenS := (sFor (iSeq (eVar 2)) (gTup 2 (gsCons (gNm 7) (gsCons (gNm 8) gsNil))) b__law_is_nest_11)
def b__law_is_nest : DenS := (sSeq (sIf (tOrT (tNotT (tTru (eIsi "tuple" (eVar 2)))) (tOf (eBin gNe (eBin gAdd (eVar 0) (eVar 1)) (eBin gAdd (eCall gLen [(eVar 2)]) (eC (.int 1)))))) (sRet (eC (.bl false))) sNil)
  (sSeq (sFor (iSeq (eVar 2)) (gNm 3) b__law_is_nest_3)
  (sSeq (sAsg (eBin gAdd (eComp (iRange [(eVar 0)]) (gNm 9) tYesD [] [9] (emL (eTup [(eC (.str "high")), (eVar 9)])) [] finL) (eComp (iRange [(eVar 1)]) (gNm 9) tYesD [] [9] (emL (eTup [(eC (.str "low")), (eVar 9)])) [] finL)) (gNm 4))
  (sSeq (sAsg (eSlR (eVar 4) none (some (eC (.int 1)))) (gNm 5))
  (sSeq (sFor (iSeq (eVar 4)) (gNm 6) b__law_is_nest_10)
  (sRet ((eBin gEq (eCall gLen [(eVar 5)]) (eCall gLen [(eVar 4)])))))))))
def F__law_is_nest : Fn := pureF (bodyF N__law_is_nest.length b__law_is_nest)
theorem ok__law_is_nest {P : Program} {w : World} {K : PySem.W.Frag} {mg : Str → Option Value} {base : Heap} {f : Addr} {fd : FuncData} (fr : Fr mg) (F : FnP K "_law_is_nest" s__law_is_nest f fd) (hm : mg "_law_is_nest" = some (.ref f))  (cal__law_whole : C8.Cal P w K mg base 1 "_law_whole" (spF K w 1 F__law_whole) []) : FnOk P w K mg base C8.CX0 2 f fd ["_law_highs", "_law_lows", "_law_thing"] (spF K w 3 (bodyF N__law_is_nest.length b__law_is_nest)) :=
  have sc := sc__law_is_nest
  fn_body F sc rfl fun cdv A outer s H E hr =>
  (s_cons (s_if (t_w (w_or (t_not (t_tru (d_isi (d_var (i := 2)) rfl fr.n_isinstance rfl fr.n_tuple bt_tuple))) (w_or1 (t_cmp (o_neA (room_u hr)) (d_bin o_add (d_var (i := 0)) (d_var (i := 1))) (d_bin o_add (d_callB (c_len) rfl fr.n_len bt_len (da_cons (d_var (i := 2)) da_nil)) d_int))))) (s_one (s_ret d_bl)) s_nil)
  (s_cons (s_for PassesOwn.never rfl (i_seq (d_var (i := 2))) (g_name (i := 3) sc.nd) (s_cons (s_if (t_w (w_or (t_not (t_tru (d_isi (d_var (i := 3)) rfl fr.n_isinstance rfl fr.n_tuple bt_tuple))) (w_or (t_cmp (o_neA (room_u hr)) (d_callB (c_len) rfl fr.n_len bt_len (da_cons (d_var (i := 3)) da_nil)) d_int) (w_or1 (t_cmp (o_neA (room_u hr)) (d_lc rfl sc.nd finL_ok (own := [("_law_one", 10)]) (own0 := [10]) (owns := []) (i_seq (d_var (i := 3))) (by rfl) (fun _ _ _ _ _ => (g_name (i := 10) sc.nd)) (fun _ _ _ _ _ => (ts_one (t_not (t_tru (d_call cal__law_whole hr (by decide) rfl (da_cons (d_var (i := 10)) da_nil)))))) (fun _ _ _ _ _ => Cls.nil) (fun _ _ _ _ _ => (d_var (i := 10))) (GOk.name (by decide))) (d_lst da_nil)))))) (s_one (s_ret d_bl)) s_nil)
  (s_one (s_if (t_w (w_or (t_not (t_chain o_le o_lt d_int (d_ixR (o_ixA (room_u hr)) (d_var (i := 3)) d_int) (d_var (i := 0)))) (w_or1 (t_not (t_chain o_le o_lt d_int (d_ixR (o_ixA (room_u hr)) (d_var (i := 3)) d_int) (d_var (i := 1))))))) (s_one (s_ret d_bl)) s_nil))))
  (s_cons (s_asg (d_bin o_add (d_lc rfl sc.nd finL_ok (own := [("_law_k", 9)]) (own0 := [9]) (owns := []) (i_range1 rfl fr.n_range (da_cons (d_var (i := 0)) da_nil)) (by rfl) (fun _ _ _ _ _ => (g_name (i := 9) sc.nd)) (fun _ _ _ _ _ => ts_nil) (fun _ _ _ _ _ => Cls.nil) (fun _ _ _ _ _ => (d_tup (da_cons d_str (da_cons (d_var (i := 9)) da_nil)))) (GOk.name (by decide))) (d_lc rfl sc.nd finL_ok (own := [("_law_k", 9)]) (own0 := [9]) (owns := []) (i_range1 rfl fr.n_range (da_cons (d_var (i := 1)) da_nil)) (by rfl) (fun _ _ _ _ _ => (g_name (i := 9) sc.nd)) (fun _ _ _ _ _ => ts_nil) (fun _ _ _ _ _ => Cls.nil) (fun _ _ _ _ _ => (d_tup (da_cons d_str (da_cons (d_var (i := 9)) da_nil)))) (GOk.name (by decide)))) (g_name (i := 4) sc.nd))
  (s_cons (s_asg (d_slR (d_var (i := 4)) do_none (do_some d_int)) (g_name (i := 5) sc.nd))
  (s_cons (s_for PassesOwn.never rfl (i_seq (d_var (i := 4))) (g_name (i := 6) sc.nd) (s_one (s_for PassesOwn.never rfl (i_seq (d_var (i := 2))) (g_tup rfl (gs_cons (g_name (i := 7) sc.nd) (gs_cons (g_name (i := 8) sc.nd) gs_nil))) (s_cons (s_if (t_w (w_and (t_cmp (o_inA (room_u hr)) (d_tup (da_cons d_str (da_cons (d_var (i := 7)) da_nil))) (d_var (i := 5))) (w_and1 (t_cmp (o_notinA (room_u hr)) (d_tup (da_cons d_str (da_cons (d_var (i := 8)) da_nil))) (d_var (i := 5)))))) (s_one (s_expr (d_methL PySem.F.slot_list_append PySem.F.type_list_append m_append (d_var (i := 5)) (da_cons (d_tup (da_cons d_str (da_cons (d_var (i := 8)) da_nil))) da_nil)))) s_nil)
  (s_one (s_if (t_w (w_and (t_cmp (o_inA (room_u hr)) (d_tup (da_cons d_str (da_cons (d_var (i := 8)) da_nil))) (d_var (i := 5))) (w_and1 (t_cmp (o_notinA (room_u hr)) (d_tup (da_cons d_str (da_cons (d_var (i := 7)) da_nil))) (d_var (i := 5)))))) (s_one (s_expr (d_methL PySem.F.slot_list_append PySem.F.type_list_append m_append (d_var (i := 5)) (da_cons (d_tup (da_cons d_str (da_cons (d_var (i := 7)) da_nil))) da_nil)))) s_nil))))))
  (s_one (s_ret (d_cmp (o_eqA (room_u hr)) (d_callB (c_len) rfl fr.n_len bt_len (da_cons (d_var (i := 5)) da_nil)) (d_callB (c_len) rfl fr.n_len bt_len (da_cons (d_var (i := 4)) da_nil))))))))))
theorem cl__law_is_nest {P : Program} {w : World} {K : PySem.W.Frag} {mg : Str → Option Value} {base : Heap} {f : Addr} {fd : FuncData} (fr : Fr mg) (F : FnP K "_law_is_nest" s__law_is_nest f fd) (hm : mg "_law_is_nest" = some (.ref f))  (cal__law_whole : C8.Cal P w K mg base 1 "_law_whole" (spF K w 1 F__law_whole) []) : C8.Cal P w K mg base 2 "_law_is_nest" (spF K w 3 F__law_is_nest) [] :=
  cal_pure (fn_cal (ok__law_is_nest fr F hm  cal__law_whole) hm F.kp (F.bindsN fun _ _ _ _ _ _ us hl => match us, hl with | [_, _, _], _ => rfl))
/-! ### law -/
abbrev s_law : Stmt := top 14
abbrev N_law : List Str := ["_law_script", "_law_deck_here", "_law_time", "_law_highs", "_law_lows", "_law_pairs", "_law_at", "_law_some", "_law_thing", "_law_found", "_law_more", "_law_others"]
theorem sc_law : FnScope N_law ["_law_script"] (defScope s_law) := ⟨rfl, rfl, rfl, by decide +kernel, rfl, by decide +kernel, by decide +kernel⟩
def b_law_5 : DenS := (sSeq (sAsg (eFn 2 F__law_draw [(eVar 1), (eCall gMax2 [(eC (.int 1)), (eCall gLen [(eVar 5)])])]) (gNm 6))
  (sSeq (sAsg (eLst [(eBin gAdd (eSl (eVar 5) none (some (eVar 6))) (eSl (eVar 5) (some (eBin gAdd (eVar 6) (eC (.int 1)))) none)), (eBin gAdd (eVar 5) (eSl (eVar 5) none (some (eC (.int 1))))), (eBin gAdd (eBin gAdd (eSl (eVar 5) none (some (eVar 6))) (eTup [(eTup [(eC (.int 0)), (eC (.int 0))])])) (eSl (eVar 5) (some (eBin gAdd (eVar 6) (eC (.int 1)))) none)), (eRev (eVar 5))]) (gNm 7))
  (sSeq (sAsg (eBin gIxA (eLst [(eFn 3 (F__law_bent 4) [(eVar 1), (eVar 5), (eC (.int 2))]), (eBin gIxA (eVar 7) (eFn 2 F__law_draw [(eVar 1), (eC (.int 4))]))]) (eFn 2 F__law_draw [(eVar 1), (eC (.int 2))])) (gNm 8))
  (sSeq (sPar 10 11 [(eBin gAdd (eVar 3) (eBin gIxA (eLst [(eC (.int 0)), (eC (.int 0)), (eC (.int 1)), (eC (.int 0))]) (eFn 2 F__law_draw [(eVar 1), (eC (.int 4))]))), (eBin gAdd (eVar 4) (eBin gIxA (eLst [(eC (.int 0)), (eC (.int 0)), (eC (.int 1)), (eC (.int 0))]) (eFn 2 F__law_draw [(eVar 1), (eC (.int 4))])))])
  (sSeq (sAsg (eFn 3 F_nest_holds [(eVar 10), (eVar 11), (eVar 8)]) (gNm 9))
  (sIf (tOrT (tNotT (tTru (eIsi "bool" (eVar 9)))) (tOf (eBin gNe (eVar 9) (eFn 3 F__law_is_nest [(eVar 10), (eVar 11), (eVar 8)])))) (sRet (eC (.bl false))) sNil))))))
def b_law : DenS := (sSeq (sAsg (eFn 1 F__law_deck [(eVar 0)]) (gNm 1))
  (sSeq (sAsg (eFn 1 F__law_tree [(eVar 1)]) (gTup 3 (gsCons (gNm 3) (gsCons (gNm 4) (gsCons (gNm 5) gsNil)))))
  (sSeq (sIf (tOf (eBin (gIsB true) (eFn 3 F_nest_holds [(eVar 3), (eVar 4), (eVar 5)]) (eC (.bl true)))) (sRet (eC (.bl false))) sNil)
  (sSeq (sFor (iRange [(eC (.int 4))]) (gNm 2) b_law_5)
  (sRet (eC (.bl true)))))))
def F_law : Fn := bodyF N_law.length b_law
theorem ok_law {P : Program} {w : World} {K : PySem.W.Frag} {mg : Str → Option Value} {base : Heap} {f : Addr} {fd : FuncData} (fr : Fr mg) (F : FnP K "law" s_law f fd) (hm : mg "law" = some (.ref f))  (cal__law_deck : C8.Cal P w K mg base 1 "_law_deck" (spF K w 1 F__law_deck) []) (cal__law_tree : C8.Cal P w K mg base 2 "_law_tree" (spF K w 1 F__law_tree) []) (cal_nest_holds : C8.Cal P w K mg base 3 "nest_holds" (spF K w 3 F_nest_holds) []) (cal__law_draw : C8.Cal P w K mg base 1 "_law_draw" (spF K w 2 F__law_draw) []) (cal__law_bent : C8.Cal P w K mg base 6 "_law_bent" (spF K w 3 (F__law_bent 4)) []) (cal__law_is_nest : C8.Cal P w K mg base 2 "_law_is_nest" (spF K w 3 F__law_is_nest) []) : FnOk P w K mg base C8.CX0 7 f fd ["_law_script"] (spF K w 1 (bodyF N_law.length b_law)) :=
  have sc := sc_law
  fn_body F sc rfl fun cdv A outer s H E hr =>
  (s_cons (s_asg (d_call cal__law_deck hr (by decide) rfl (da_cons (d_var (i := 0)) da_nil)) (g_name (i := 1) sc.nd))
  (s_cons (s_asg (d_call cal__law_tree hr (by decide) rfl (da_cons (d_var (i := 1)) da_nil)) (g_tup rfl (gs_cons (g_name (i := 3) sc.nd) (gs_cons (g_name (i := 4) sc.nd) (gs_cons (g_name (i := 5) sc.nd) gs_nil)))))
  (s_cons (s_if (t_cmp o_isnotB (d_call cal_nest_holds hr (by decide) rfl (da_cons (d_var (i := 3)) (da_cons (d_var (i := 4)) (da_cons (d_var (i := 5)) da_nil)))) d_bl) (s_one (s_ret d_bl)) s_nil)
  (s_cons (s_for PassesOwn.never rfl (i_range1 rfl fr.n_range (da_cons d_int da_nil)) (g_name (i := 2) sc.nd) (s_cons (s_asg (d_call cal__law_draw hr (by decide) rfl (da_cons (d_var (i := 1)) (da_cons (d_callB (c_max2 rfl) rfl fr.n_max bt_max (da_cons d_int (da_cons (d_callB (c_len) rfl fr.n_len bt_len (da_cons (d_var (i := 5)) da_nil)) da_nil))) da_nil))) (g_name (i := 6) sc.nd))
  (s_cons (s_asg (d_lst (da_cons (d_bin o_add (d_sl (d_var (i := 5)) do_none (do_some (d_var (i := 6)))) (d_sl (d_var (i := 5)) (do_some (d_bin o_add (d_var (i := 6)) d_int)) do_none)) (da_cons (d_bin o_add (d_var (i := 5)) (d_sl (d_var (i := 5)) do_none (do_some d_int))) (da_cons (d_bin o_add (d_bin o_add (d_sl (d_var (i := 5)) do_none (do_some (d_var (i := 6)))) (d_tup (da_cons (d_tup (da_cons d_int (da_cons d_int da_nil))) da_nil))) (d_sl (d_var (i := 5)) (do_some (d_bin o_add (d_var (i := 6)) d_int)) do_none)) (da_cons (d_rev (d_var (i := 5))) da_nil))))) (g_name (i := 7) sc.nd))
  (s_cons (s_asg (d_ixR (o_ixA (room_u hr)) (d_lst (da_cons (d_call cal__law_bent hr (by decide) rfl (da_cons (d_var (i := 1)) (da_cons (d_var (i := 5)) (da_cons d_int da_nil)))) (da_cons (d_ixR (o_ixA (room_u hr)) (d_var (i := 7)) (d_call cal__law_draw hr (by decide) rfl (da_cons (d_var (i := 1)) (da_cons d_int da_nil)))) da_nil))) (d_call cal__law_draw hr (by decide) rfl (da_cons (d_var (i := 1)) (da_cons d_int da_nil)))) (g_name (i := 8) sc.nd))
  (s_cons (s_par (i := 10) (j := 11) rfl sc.nd (da_cons (d_bin o_add (d_var (i := 3)) (d_ixR (o_ixA (room_u hr)) (d_lst (da_cons d_int (da_cons d_int (da_cons d_int (da_cons d_int da_nil))))) (d_call cal__law_draw hr (by decide) rfl (da_cons (d_var (i := 1)) (da_cons d_int da_nil))))) (da_cons (d_bin o_add (d_var (i := 4)) (d_ixR (o_ixA (room_u hr)) (d_lst (da_cons d_int (da_cons d_int (da_cons d_int (da_cons d_int da_nil))))) (d_call cal__law_draw hr (by decide) rfl (da_cons (d_var (i := 1)) (da_cons d_int da_nil))))) da_nil)))
  (s_cons (s_asg (d_call cal_nest_holds hr (by decide) rfl (da_cons (d_var (i := 10)) (da_cons (d_var (i := 11)) (da_cons (d_var (i := 8)) da_nil)))) (g_name (i := 9) sc.nd))
  (s_one (s_if (t_w (w_or (t_not (t_tru (d_isi (d_var (i := 9)) rfl fr.n_isinstance rfl fr.n_bool bt_bool))) (w_or1 (t_cmp (o_neA (room_u hr)) (d_var (i := 9)) (d_call cal__law_is_nest hr (by decide) rfl (da_cons (d_var (i := 10)) (da_cons (d_var (i := 11)) (da_cons (d_var (i := 8)) da_nil)))))))) (s_one (s_ret d_bl)) s_nil))))))))
  (s_one (s_ret d_bl))))))
theorem cl_law {P : Program} {w : World} {K : PySem.W.Frag} {mg : Str → Option Value} {base : Heap} {f : Addr} {fd : FuncData} (fr : Fr mg) (F : FnP K "law" s_law f fd) (hm : mg "law" = some (.ref f))  (cal__law_deck : C8.Cal P w K mg base 1 "_law_deck" (spF K w 1 F__law_deck) []) (cal__law_tree : C8.Cal P w K mg base 2 "_law_tree" (spF K w 1 F__law_tree) []) (cal_nest_holds : C8.Cal P w K mg base 3 "nest_holds" (spF K w 3 F_nest_holds) []) (cal__law_draw : C8.Cal P w K mg base 1 "_law_draw" (spF K w 2 F__law_draw) []) (cal__law_bent : C8.Cal P w K mg base 6 "_law_bent" (spF K w 3 (F__law_bent 4)) []) (cal__law_is_nest : C8.Cal P w K mg base 2 "_law_is_nest" (spF K w 3 F__law_is_nest) []) : C8.Cal P w K mg base 7 "law" (spF K w 1 F_law) [] :=
  (fn_cal (ok_law fr F hm  cal__law_deck cal__law_tree cal_nest_holds cal__law_draw cal__law_bent cal__law_is_nest) hm F.kp (F.bindsN fun _ _ _ _ _ _ us hl => match us, hl with | [_], _ => rfl))
/-! ### the head -/
def facN : List He.DefD := [⟨("is_number", none), "is_number", "is_number", defArgs s_is_number, defBody s_is_number, defScope s_is_number, [], []⟩, ⟨("is_pair", none), "is_pair", "is_pair", defArgs s_is_pair, defBody s_is_pair, defScope s_is_pair, [], []⟩, ⟨("reached_by", none), "reached_by", "reached_by", defArgs s_reached_by, defBody s_reached_by, defScope s_reached_by, [], []⟩, ⟨("nest_holds", none), "nest_holds", "nest_holds", defArgs s_nest_holds, defBody s_nest_holds, defScope s_nest_holds, [], []⟩, ⟨("_law_deck", none), "_law_deck", "_law_deck", defArgs s__law_deck, defBody s__law_deck, defScope s__law_deck, [], []⟩, ⟨("_law_draw", none), "_law_draw", "_law_draw", defArgs s__law_draw, defBody s__law_draw, defScope s__law_draw, [], []⟩, ⟨("_law_odd", none), "_law_odd", "_law_odd", defArgs s__law_odd, defBody s__law_odd, defScope s__law_odd, [], []⟩, ⟨("_law_bent", none), "_law_bent", "_law_bent", defArgs s__law_bent, defBody s__law_bent, defScope s__law_bent, [], []⟩, ⟨("_law_whole", none), "_law_whole", "_law_whole", defArgs s__law_whole, defBody s__law_whole, defScope s__law_whole, [], []⟩, ⟨("_law_tree", none), "_law_tree", "_law_tree", defArgs s__law_tree, defBody s__law_tree, defScope s__law_tree, [], []⟩, ⟨("_law_is_nest", none), "_law_is_nest", "_law_is_nest", defArgs s__law_is_nest, defBody s__law_is_nest, defScope s__law_is_nest, [], []⟩, ⟨("law", none), "law", "law", defArgs s_law, defBody s_law, defScope s_law, [], []⟩]
def facA : List He.Fa := [.glo "is_number", .glo "is_pair", .glo "reached_by", .glo "nest_holds", .glo "_law_deck", .glo "_law_draw", .glo "_law_odd", .glo "_law_bent", .glo "_law_whole", .glo "_law_tree", .glo "_law_is_nest", .glo "law", .free "abs", .free "all", .free "bool", .free "int", .free "isinstance", .free "len", .free "list", .free "max", .free "range", .free "sorted", .free "tuple"]
abbrev RR : PySem.W.OpenRow := PySem.W.OpenLaw.row ROW
abbrev hk : PySem.W.Hook := He.hookD 8 facA facN
def hob (s : PySem.W.SharedT) : He.AlD := He.obsDG 8 facA facN (HandSHeadRun.getT s)
theorem hob_eq (s : PySem.W.SharedT) : hob s = hk.obs s.abs := He.obsDG_eq (HandSHeadRun.getT_eq s)
def loose : List PySem.Str := ["is_number", "is_pair", "reached_by", "nest_holds", "_law_deck", "_law_draw", "_law_odd", "_law_bent", "_law_whole", "_law_tree", "_law_is_nest"]
theorem hrun (w : World) : HandSHeadRun.RunEq RR (PySem.W.view RR.prog [14]) hk hob 4000 loose w := by
  intro os
  kernel_rfl
theorem facts {P : Program} {w : World} {K : PySem.W.Frag} {h : Heap} {mg : Str → Option Value} {f : Addr} (X : K.In h) (G : h.Ns mainGlobals mg) (hfa : mg ("law" : Str) = some (.ref f)) (c : He.SaysD facA facN K) :
    ∃ fd : FuncData, (∀ (s : Shared) (v : Value), BindsTo s fd ⟨[v], []⟩ [("_law_script", v)]) ∧ ∀ base : Heap, K.In base → base.Ns mainGlobals mg → FnOk P w K mg base C8.CX0 7 f fd ["_law_script"] (spF K w 1 F_law) := by
  obtain ⟨fd_is_number, f_is_number⟩ := c.def_ 0 (d := ⟨("is_number", none), "is_number", "is_number", defArgs s_is_number, defBody s_is_number, defScope s_is_number, [], []⟩) rfl
  have g_is_number := He.glo_ok X G (c.fact 0 (f := .glo "is_number") rfl)
  obtain ⟨fd_is_pair, f_is_pair⟩ := c.def_ 1 (d := ⟨("is_pair", none), "is_pair", "is_pair", defArgs s_is_pair, defBody s_is_pair, defScope s_is_pair, [], []⟩) rfl
  have g_is_pair := He.glo_ok X G (c.fact 1 (f := .glo "is_pair") rfl)
  obtain ⟨fd_reached_by, f_reached_by⟩ := c.def_ 2 (d := ⟨("reached_by", none), "reached_by", "reached_by", defArgs s_reached_by, defBody s_reached_by, defScope s_reached_by, [], []⟩) rfl
  have g_reached_by := He.glo_ok X G (c.fact 2 (f := .glo "reached_by") rfl)
  obtain ⟨fd_nest_holds, f_nest_holds⟩ := c.def_ 3 (d := ⟨("nest_holds", none), "nest_holds", "nest_holds", defArgs s_nest_holds, defBody s_nest_holds, defScope s_nest_holds, [], []⟩) rfl
  have g_nest_holds := He.glo_ok X G (c.fact 3 (f := .glo "nest_holds") rfl)
  obtain ⟨fd__law_deck, f__law_deck⟩ := c.def_ 4 (d := ⟨("_law_deck", none), "_law_deck", "_law_deck", defArgs s__law_deck, defBody s__law_deck, defScope s__law_deck, [], []⟩) rfl
  have g__law_deck := He.glo_ok X G (c.fact 4 (f := .glo "_law_deck") rfl)
  obtain ⟨fd__law_draw, f__law_draw⟩ := c.def_ 5 (d := ⟨("_law_draw", none), "_law_draw", "_law_draw", defArgs s__law_draw, defBody s__law_draw, defScope s__law_draw, [], []⟩) rfl
  have g__law_draw := He.glo_ok X G (c.fact 5 (f := .glo "_law_draw") rfl)
  obtain ⟨fd__law_odd, f__law_odd⟩ := c.def_ 6 (d := ⟨("_law_odd", none), "_law_odd", "_law_odd", defArgs s__law_odd, defBody s__law_odd, defScope s__law_odd, [], []⟩) rfl
  have g__law_odd := He.glo_ok X G (c.fact 6 (f := .glo "_law_odd") rfl)
  obtain ⟨fd__law_bent, f__law_bent⟩ := c.def_ 7 (d := ⟨("_law_bent", none), "_law_bent", "_law_bent", defArgs s__law_bent, defBody s__law_bent, defScope s__law_bent, [], []⟩) rfl
  have g__law_bent := He.glo_ok X G (c.fact 7 (f := .glo "_law_bent") rfl)
  obtain ⟨fd__law_whole, f__law_whole⟩ := c.def_ 8 (d := ⟨("_law_whole", none), "_law_whole", "_law_whole", defArgs s__law_whole, defBody s__law_whole, defScope s__law_whole, [], []⟩) rfl
  have g__law_whole := He.glo_ok X G (c.fact 8 (f := .glo "_law_whole") rfl)
  obtain ⟨fd__law_tree, f__law_tree⟩ := c.def_ 9 (d := ⟨("_law_tree", none), "_law_tree", "_law_tree", defArgs s__law_tree, defBody s__law_tree, defScope s__law_tree, [], []⟩) rfl
  have g__law_tree := He.glo_ok X G (c.fact 9 (f := .glo "_law_tree") rfl)
  obtain ⟨fd__law_is_nest, f__law_is_nest⟩ := c.def_ 10 (d := ⟨("_law_is_nest", none), "_law_is_nest", "_law_is_nest", defArgs s__law_is_nest, defBody s__law_is_nest, defScope s__law_is_nest, [], []⟩) rfl
  have g__law_is_nest := He.glo_ok X G (c.fact 10 (f := .glo "_law_is_nest") rfl)
  obtain ⟨fd_law, f_law⟩ := c.def_ 11 (d := ⟨("law", none), "law", "law", defArgs s_law, defBody s_law, defScope s_law, [], []⟩) rfl
  have g_law := He.glo_ok X G (c.fact 11 (f := .glo "law") rfl)
  have fr : Fr mg := ⟨He.free_ok X G (c.fact 12 (f := .free "abs") rfl), He.free_ok X G (c.fact 13 (f := .free "all") rfl), He.free_ok X G (c.fact 14 (f := .free "bool") rfl), He.free_ok X G (c.fact 15 (f := .free "int") rfl), He.free_ok X G (c.fact 16 (f := .free "isinstance") rfl), He.free_ok X G (c.fact 17 (f := .free "len") rfl), He.free_ok X G (c.fact 18 (f := .free "list") rfl), He.free_ok X G (c.fact 19 (f := .free "max") rfl), He.free_ok X G (c.fact 20 (f := .free "range") rfl), He.free_ok X G (c.fact 21 (f := .free "sorted") rfl), He.free_ok X G (c.fact 22 (f := .free "tuple") rfl)⟩
  cases hfa.symm.trans g_law
  refine ⟨fd_law, fun s v => FunD.bindsA (ps := ["_law_script"]) f_law (fun _ _ _ _ _ _ us hl => match us, hl with | [_], _ => rfl) s [v] rfl, fun base _ _ => ?_⟩
  have q_is_number := cl_is_number (P := P) (w := w) (base := base) fr f_is_number g_is_number  
  have q_is_pair := cl_is_pair (P := P) (w := w) (base := base) fr f_is_pair g_is_pair  q_is_number
  have q_reached_by := cl_reached_by (P := P) (w := w) (base := base) fr f_reached_by g_reached_by  
  have q_nest_holds := cl_nest_holds (P := P) (w := w) (base := base) fr f_nest_holds g_nest_holds  q_is_pair q_reached_by
  have q__law_deck := cl__law_deck (P := P) (w := w) (base := base) fr f__law_deck g__law_deck  
  have q__law_draw := cl__law_draw (P := P) (w := w) (base := base) fr f__law_draw g__law_draw  
  have q__law_odd := cl__law_odd (P := P) (w := w) (base := base) fr f__law_odd g__law_odd  q__law_draw
  have q__law_bent := cl__law_bent (P := P) (w := w) (base := base) fr f__law_bent g__law_bent  q__law_draw q__law_odd 4
  have q__law_whole := cl__law_whole (P := P) (w := w) (base := base) fr f__law_whole g__law_whole  
  have q__law_tree := cl__law_tree (P := P) (w := w) (base := base) fr f__law_tree g__law_tree  q__law_draw
  have q__law_is_nest := cl__law_is_nest (P := P) (w := w) (base := base) fr f__law_is_nest g__law_is_nest  q__law_whole
  exact ok_law fr f_law g_law q__law_deck q__law_tree q_nest_holds q__law_draw q__law_bent q__law_is_nest
end Pv
namespace Pv
open PySem PySem.Spec PyProof.Rows L2
local macro_rules | `(tactic| walk_at "ev") => `(tactic| simp -implicitDefEqProofs only [ev_var, ev_c, ev_tup, ev_lst, ev_lstR, ev_nil, ev_cons, ev_bin, ev_un, ev_call, ev_callR, ev_fn, ev_chain, ev_if, ev_and, ev_or, ev_p0, ev_p1, ev_sl, ev_slR, ev_rev, ev_mt, ev_of, ev_tru, ev_not, ev_andT, ev_orT, ev_yes, ev_nm, ev_gtupL2, ev_gtupL3, ev_gtupL4, ev_gtup1, ev_gtup2, ev_gtup3, ev_gtup4, ev_gsnil, ev_gscons, ev_sub, ev_seq, ev_snil, ev_pass, ev_brk, ev_cnt, ev_ret, ev_expr, ev_sif, ev_asg, ev_par, ev_for, ev_whl, ev_iseq, ev_isi', ev_comp, k_isi_tuple_t, isLst_l, Int.sub_zero, Int.sub_self, ev_dct0, ev_dct0R, ev_dct1R, k_d1, k_d2, k_d3, k_body_nx, k_body_rt, k_pure, k_finL, k_finLR, k_finD, k_finDR, val_bl, val_int, isIB_non, isIB_bl, isIB_int, isIB_str, isIB_tup, isIB_lst, isB_non, isB_bl, isB_int, isB_str, isB_tup, isB_lst, isTup_non, isTup_bl, isTup_int, isTup_str, isTup_tup, isTup_lst, isI_non, isI_bl, isI_int, isI_str, isI_tup, isI_lst, k_isi_bool_b, k_isi_int_i, k_isi_bool_i, k_isi_tuple_i, ev_range, k_ret, k_tup, k_lst, k_lstR, k_a1, k_a2, k_bin1, k_bin2, k_un, k_call, k_retR, k_callR, k_fn1, k_fn2, k_fn3, k_fn4, k_fn5, k_ch1, k_ch2, k_ch3, k_if, k_and, k_or, k_p, k_sl1, k_sl2, k_sl3, k_sr1, k_sr2, k_sr3, k_pr, k_mt, k_mt2, k_of, k_retT, k_tru, k_not, k_andT, k_orT, k_gs, k_sub1, k_sub2, k_sub3, k_seq, k_seq_rt, k_seq_bk, k_seq_ct, k_rt, k_nx, k_sif, k_asg, k_gnx, k_par, k_for, k_for1, k_for2_nx, k_for2_ct, k_for2_bk, k_for2_rt, k_t1, k_t2_nx, k_t2_ct, k_t2_bk, k_t2_rt, k_w1, k_w2_nx, k_w2_ct, k_w2_bk, k_w2_rt, k_retL, k_seqI, k_rng1, k_rng2, seq_lst, seq_tup, sl_lst, sl_tup, sl_scr, slL_lst, rev_lst, rev_tup, okO_some, okO_none, okO_ite, add_ii, add_tt, add_ll, sub_ii, mul_ii, div_ii, mod_ii, pow_ii, neg_i, cmp_ii, not_b, isb_bb, tru_b, tru_i, tru_n, tru_t, tru_l, len_l, len_t, abs_i, max_ii, min_ii, tuple_l, tuple_t, list_l, list_t, ix_l, ix_t, at_0, at_1, at_2, at_3, eq_ii, ne_ii, eq_bb, ne_bb, lk_non, lk_bl, lk_int, lk_str, lk_tup, lk_lst, lk_dct, lk_ref, List.map_cons, List.map_nil, List.getElem?_cons_zero, List.getElem?_cons_succ, List.set_cons_zero, List.set_cons_succ, List.length_cons, List.length_nil, List.cons_append, List.nil_append, Option.bind_some, id_eq, if_true, if_false, Bool.false_eq_true, Bool.not_true, Bool.not_false, decide_eq_true_eq, beq_iff_eq])
abbrev dk (cells : List Int) (c : Nat) (rest : Sto) : Sto := .lst (cells.map .int) :: .lst [.ref 0, .int c] :: rest
theorem set_dk {a : SO} {x y d : D} {rest : Sto} : setA (.ref 1) (.int 1) d (a :: .lst [x, y] :: rest) = some (a :: .lst [x, d] :: rest) := setA_l (n := 1) (k := 1) (a := [x, y]) (st := a :: .lst [x, y] :: rest) rfl (ixN_pos (by decide) (by show (1 : Int) < 2; decide))
theorem set_d0 {ds : List D} {d : D} {rest : Sto} {i : Int} (h0 : 0 ≤ i) (h : i < ds.length) : setA (.ref 0) (.int i) d (.lst ds :: rest) = some (.lst (ds.set i.toNat d) :: rest) := setA_l rfl (ixN_pos h0 h)
theorem fmod_lt {a b : Int} (h : 0 < b) : 0 ≤ a.fmod b ∧ a.fmod b < b := ⟨Int.fmod_nonneg_of_pos a h, Int.fmod_lt_of_pos a h⟩
theorem f_draw {cells : List Int} {c : Nat} {rest : Sto} {many : Int} {Q : D → Sto → Prop} (hm : 0 < many) (h2 : many < 2 ^ 30) (hc : c < 2 ^ 40) (q : ∀ (v : Int) (cells' : List Int), cells'.length = cells.length → 0 ≤ v → v < many → Q (.int v) (dk cells' (c + 1) rest)) : okF F__law_draw [.ref 1, .int many] (dk cells c rest) Q := by
  unfold F__law_draw dk
  refine okF_body ?_
  unfold b__law_draw
  show okS _ [some (.ref 1), some (.int many), none, none] _ _
  walk_at "ev"
  rw [set_dk]
  walk_at "ev"
  -- the cell
  have fin : ∀ (cell place : Int), (cell ≥ 10 ^ 18 → 0 ≤ place ∧ place < cells.length) → okS (sSeq (sIf (tOf (eBin gGeI (eVar 2) (eBin gPow (eC (.int 10)) (eC (.int 18))))) (sSeq (sAsg (eBin gDiv (eVar 2) (eVar 1)) (gSubD (eBin gIxA (eVar 0) (eC (.int 0))) (eVar 3) setA))
      (sRet (eBin gMod (eVar 2) (eVar 1)))) sNil)
      (sRet (eBin gMod (eBin gMod (eBin gPow (eBin gAdd (eBin gAdd (eBin gMod (eVar 2) (eC (.int 2147483587))) (eBin gMul (eC (.int 7919)) (eBin gIxA (eVar 0) (eC (.int 1))))) (eC (.int 1))) (eC (.int 5))) (eC (.int 2147483647))) (eVar 1))))
      [some (.ref 1), some (.int many), some (.int cell), some (.int place)] (.lst (cells.map .int) :: .lst [.ref 0, .int ((c : Int) + 1)] :: rest) (kBody Q) := by
    intro cell place hp
    walk_at "ev"
    rw [if_pos (by decide)]
    by_cases hb : cell ≥ 10 ^ Int.toNat 18
    · rw [if_pos hb, if_pos ⟨by omega, by omega⟩]
      obtain ⟨p0, p1⟩ := hp hb
      rw [set_d0 p0 (by rw [List.length_map]; exact p1)]
      walk_at "ev"
      rw [if_pos (by omega)]
      have e : (cells.map D.int).set place.toNat (.int (cell.fdiv many)) = (cells.set place.toNat (cell.fdiv many)).map D.int := by rw [List.map_set]
      rw [e]
      exact q _ _ (by rw [List.length_set]) (fmod_lt hm).1 (fmod_lt hm).2
    · rw [if_neg hb]
      have b1 := fmod_lt (a := cell) (b := 2147483587) (by decide)
      have l1 : (Int.natAbs 7919).log2 = 12 := by decide +kernel
      have l2 : ((c : Int) + 1).natAbs.log2 < 64 := by
        have : ((c : Int) + 1).natAbs = c + 1 := by omega
        rw [this, Nat.log2_lt (by omega)]
        have : (2 : Nat) ^ 40 < 2 ^ 64 := by decide
        omega
      rw [if_pos (by decide), if_pos (by rw [l1]; omega), if_pos ⟨by decide, by decide, by
        have : (2 : Nat) ^ 40 = 1099511627776 := by decide
        have : (2 : Nat) ^ 64 = 18446744073709551616 := by decide
        omega⟩, if_pos (by decide), if_pos (by omega)]
      exact q _ _ rfl (fmod_lt hm).1 (fmod_lt hm).2
  by_cases hl : 0 < (cells.length : Int)
  · rw [List.length_map]
    rw [if_pos hl, if_pos (by omega)]
    have b := fmod_lt (a := (c : Int) + 1) hl
    have g : (cells.map D.int)[((c : Int) + 1).fmod cells.length |>.toNat]? = some (.int (cells[((c : Int) + 1).fmod cells.length |>.toNat]'(by omega))) := by
      rw [List.getElem?_map, List.getElem?_eq_getElem (by omega)]; rfl
    rw [at_pos b.1 g]
    walk_at "ev"
    have z := fin (cells[((c : Int) + 1).fmod cells.length |>.toNat]'(by omega)) _ fun _ => b
    revert z
    walk_at "ev"
    exact id
  · rw [List.length_map, if_neg hl]
    have z := fin 0 (-1) fun h => absurd h (by decide)
    revert z
    walk_at "ev"
    exact id
/-! ### the deck -/
theorem f_deck {ns : List Int} {Q : D → Sto → Prop} (h : ns.length ≤ 63) (q : ∀ cells : List Int, Q (.ref 1) (dk cells 0 [])) : okF F__law_deck [.scr (ns.map D.int)] [] Q := by
  unfold F__law_deck
  refine okF_body ?_
  unfold b__law_deck
  show okS _ [some (.scr (ns.map D.int)), none] _ _
  walk_at "ev"
  rw [lk_scr, sl_scr]
  walk_at "ev"
  rw [cut_to _ (by decide), k_comp]
  have hz : (2 : Nat) ^ 6 ≤ sizeLine := by decide
  have e : gnL (gNm 1) tYesD (compL (emL (eCall gAbs [eVar 1])) []) ((ns.map D.int).take (Int.toNat 63)) (wipeE [some (.scr (ns.map D.int)), none] [1]) [] [] = some (((ns.take 63).map fun i => if i < 0 then -i else i).map D.int, []) := by
    rw [gnL_pure (i := 1) (e := wipeE [some (.scr (ns.map D.int)), none] [1]) (keep := fun _ => true) (val := fun d => match d with | .int i => .int (if i < 0 then -i else i) | d => d) [] _ [] ?_ ?_ _ (fun _ _ => rfl) rfl]
    · rw [List.nil_append, List.filter_eq_self.mpr (fun _ _ => rfl), ← List.map_take, List.map_map, List.map_map]
      rfl
    · rw [List.length_nil, List.length_take, List.length_map]
      have : (Int.toNat 63) = 63 := rfl
      omega
    · intro d e' hd h1 h2
      rw [← List.map_take] at hd
      obtain ⟨i, _, rfl⟩ := List.mem_map.mp hd
      refine ⟨rfl, fun _ => ?_⟩
      have hl : 1 < e'.length := by rw [h2]; show 1 < 2; decide
      have ev : (e'.set 1 (some (D.int i)))[1]? = some (some (.int i)) := List.getElem?_set_self hl
      simp only [eCall, aAll, eVar, ev, Option.bind_some, List.map_cons, List.map_nil, lk_int, abs_i]
  rw [e]
  walk_at "ev"
  exact q _
/-! ### numbers, pairs -/
theorem f_is_number {d : D} {st : Sto} (h : isPd d = true) : F_is_number [d] st = some (.bl (isI d), st) := by
  refine okF_to ?_
  unfold F_is_number
  refine okF_pure (okRs_pd (by unfold isPds; rw [h]; rfl)) (okF_body ?_)
  unfold b_is_number
  show okS _ [some d] _ _
  walk_at "ev"
  rw [k_isi_int h]
  walk_at "ev"
  rw [k_isi_bool h]
  cases d <;> first | (walk_at "ev"; exact k_eq) | (unfold isPd at h; cases h)
theorem f_whole {d : D} {st : Sto} (h : isPd d = true) : F__law_whole [d] st = some (.bl (isI d), st) := by
  refine okF_to ?_
  unfold F__law_whole
  refine okF_pure (okRs_pd (by unfold isPds; rw [h]; rfl)) (okF_body ?_)
  unfold b__law_whole
  show okS _ [some d] _ _
  walk_at "ev"
  rw [k_isi_int h]
  walk_at "ev"
  rw [k_isi_bool h]
  cases d <;> first | (walk_at "ev"; exact k_eq) | (unfold isPd at h; cases h)
def pairB (a b : Int) : D → Bool
  | .tup [.int x, .int y] => decide (0 ≤ x ∧ x < a) && decide (0 ≤ y ∧ y < b)
  | _ => false
theorem pds2 {x y : D} (h : isPd (.tup [x, y]) = true) : isPd x = true ∧ isPd y = true := by
  unfold isPd isPds isPds isPds at h
  simpa using h
theorem f_is_pair {a b : Int} {d : D} {st : Sto} (h : isPd d = true) : F_is_pair [.int a, .int b, d] st = some (.bl (pairB a b d), st) := by
  refine okF_to ?_
  unfold F_is_pair
  refine okF_pure (okRs_pd (by unfold isPds isPds isPds isPds; rw [h]; rfl)) (okF_body ?_)
  unfold b_is_pair
  show okS _ [some (.int a), some (.int b), some d] _ _
  walk_at "ev"
  rw [k_isi_tuple h]
  cases d with
  | tup ds =>
    have e : isTup (.tup ds) = true := rfl
    rw [e]
    walk_at "ev"
    by_cases hl : (ds.length : Int) = 2
    · obtain ⟨x, y, rfl⟩ : ∃ x y, ds = [x, y] := by
        match ds, hl with
        | [x, y], _ => exact ⟨x, y, rfl⟩
        | [], h => exact absurd h (by simp)
        | [_], h => exact absurd h (by simp)
        | _ :: _ :: _ :: _, h => exact absurd h (by simp; omega)
      obtain ⟨hx, hy⟩ := pds2 h
      simp only [List.length_cons, List.length_nil, BEq.rfl, Nat.zero_add, Nat.reduceAdd, Int.cast_ofNat_Int, Bool.not_true, Bool.false_eq_true, if_false]
      walk_at "ev"
      rw [okF_eq (f_is_number hx)]
      walk_at "ev"
      cases x with
      | int x =>
        walk_at "ev"
        rw [okF_eq (f_is_number hy)]
        cases y with
        | int y =>
          walk_at "ev"
          unfold pairB
          by_cases h1 : 0 ≤ x <;> by_cases h2 : x < a <;> by_cases h3 : 0 ≤ y <;> by_cases h4 : y < b <;>
            (simp only [h1, h2, h3, h4, if_true, if_false, decide_true, decide_false, and_self, and_true, true_and, and_false, false_and, Bool.and_true, Bool.and_false, Bool.true_and, Bool.false_and, Bool.false_eq_true]; exact k_eq)
        | _ => first | (walk_at "ev"; exact k_eq) | (unfold isPd at hy; cases hy)
      | _ => first | (walk_at "ev"; exact k_eq) | (unfold isPd at hx; cases hx)
    · have e : ((ds.length : Int) == 2) = false := by simpa using hl
      simp only [e, Bool.not_false, if_true]
      have e : pairB a b (.tup ds) = false := by
        unfold pairB
        split
        · rename_i q
          cases q
          exact absurd rfl hl
        · rfl
      rw [e]
      exact k_eq
  | _ => first | (walk_at "ev"; exact k_eq) | (unfold isPd at h; cases h)
/-! ### what is reached -/
def Clo (ps : List (Int × Int)) (C : Int × Int → Prop) : Prop := ∀ p ∈ ps, (C (0, p.1) ↔ C (1, p.2))
def nb (ps : List (Int × Int)) (x : Int × Int) (S : List (Int × Int)) : Prop := ∀ p ∈ ps, (x = (0, p.1) → (1, p.2) ∈ S) ∧ (x = (1, p.2) → (0, p.1) ∈ S)
def cand (ps : List (Int × Int)) (s : Int × Int) : List (Int × Int) := s :: ps.flatMap fun p => [(0, p.1), (1, p.2)]
theorem cand_len (ps : List (Int × Int)) (s : Int × Int) : (cand ps s).length = 1 + 2 * ps.length := by
  unfold cand
  induction ps with
  | nil => rfl
  | cons p ps ih => simp at ih ⊢; omega
theorem cand_h {ps : List (Int × Int)} {s p : Int × Int} (h : p ∈ ps) : (0, p.1) ∈ cand ps s ∧ (1, p.2) ∈ cand ps s := by
  unfold cand
  constructor <;> refine List.mem_cons_of_mem _ (List.mem_flatMap.mpr ⟨p, h, by simp⟩)
structure RI (ps : List (Int × Int)) (s : Int × Int) (S L : List (Int × Int)) (h : Int × Int) (done : List (Int × Int)) : Prop where
  nd : S.Nodup
  st : s ∈ S
  sub : ∀ x ∈ S, x ∈ cand ps s
  lsub : ∀ x ∈ L, x ∈ S
  min : ∀ C : Int × Int → Prop, C s → Clo ps C → ∀ x ∈ S, C x
  out : ∀ x ∈ S, x ∉ L → x ≠ h → nb ps x S
  hin : h ∈ S
  own : nb done h S
  ll : L.length ≤ S.length
theorem RI.add {ps : List (Int × Int)} {s : Int × Int} {S L done : List (Int × Int)} {h y : Int × Int} (r : RI ps s S L h done) (hy : y ∉ S) (hc : y ∈ cand ps s) (e : ∀ C : Int × Int → Prop, Clo ps C → C h → C y) : RI ps s (S ++ [y]) (L ++ [y]) h done where
  nd := List.nodup_append.mpr ⟨r.nd, by simp, fun a ha b hb => by rw [List.mem_singleton.mp hb]; exact fun z => hy (z ▸ ha)⟩
  st := List.mem_append_left _ r.st
  sub := fun x hx => by
    rcases List.mem_append.mp hx with hx | hx
    · exact r.sub x hx
    · rw [List.mem_singleton.mp hx]; exact hc
  lsub := fun x hx => by
    rcases List.mem_append.mp hx with hx | hx
    · exact List.mem_append_left _ (r.lsub x hx)
    · exact List.mem_append_right _ hx
  min := fun C h0 hC x hx => by
    rcases List.mem_append.mp hx with hx | hx
    · exact r.min C h0 hC x hx
    · rw [List.mem_singleton.mp hx]; exact e C hC (r.min C h0 hC h r.hin)
  out := fun x hx hl hh p hp => by
    have hx' : x ∈ S := by
      rcases List.mem_append.mp hx with hx | hx
      · exact hx
      · exact absurd (List.mem_append_right _ hx) hl
    have q := r.out x hx' (fun z => hl (List.mem_append_left _ z)) hh p hp
    exact ⟨fun e => List.mem_append_left _ (q.1 e), fun e => List.mem_append_left _ (q.2 e)⟩
  hin := List.mem_append_left _ r.hin
  own := fun p hp => ⟨fun e => List.mem_append_left _ ((r.own p hp).1 e), fun e => List.mem_append_left _ ((r.own p hp).2 e)⟩
  ll := by rw [List.length_append, List.length_append]; exact Nat.add_le_add_right r.ll _
theorem RI.next {ps : List (Int × Int)} {s : Int × Int} {S L done : List (Int × Int)} {h p : Int × Int} (r : RI ps s S L h done) (h1 : h = (0, p.1) → (1, p.2) ∈ S) (h2 : h = (1, p.2) → (0, p.1) ∈ S) : RI ps s S L h (done ++ [p]) :=
  ⟨r.nd, r.st, r.sub, r.lsub, r.min, r.out, r.hin, fun q hq => by
    rcases List.mem_append.mp hq with hq | hq
    · exact r.own q hq
    · rw [List.mem_singleton.mp hq]; exact ⟨h1, h2⟩, r.ll⟩
theorem nodup_len {α : Type} [DecidableEq α] : ∀ {S C : List α}, S.Nodup → (∀ x ∈ S, x ∈ C) → S.length ≤ C.length
  | [], _, _, _ => Nat.zero_le _
  | x :: S, C, hn, h => by
    rw [List.nodup_cons] at hn
    have hx := h x List.mem_cons_self
    have q := nodup_len (C := C.erase x) hn.2 fun y hy => (List.mem_erase_of_ne (fun e => hn.1 (by rw [← e]; exact hy))).mpr (h y (List.mem_cons_of_mem _ hy))
    rw [List.length_erase_of_mem hx] at q
    have : 0 < C.length := List.length_pos_of_mem hx
    rw [List.length_cons]; omega
/-- the store of the search -/
abbrev rbst (S L : List (Int × Int)) (vs : List D) : Sto := [.dct true (S.map n2) vs, .lst (L.map n2)]
theorem rb_one {ps : List (Int × Int)} {s h y : Int × Int} {S L done : List (Int × Int)} {one : Int × Int} {vs : List D} {env : Env} {Q : Fl → Env → Sto → Prop} (hlen : ps.length ≤ 100000) (r : RI ps s S L h done)
    (e2 : env[2]? = some (some (.ref 0))) (e3 : env[3]? = some (some (.ref 1))) (e4 : env[4]? = some (some (n2 h))) (e7 : env[7]? = some (some (n2 one))) (e8 : env[8]? = some (some (n2 y)))
    (hc : y ∈ cand ps s) (ed : ∀ C : Int × Int → Prop, Clo ps C → C one → C y)
    (q : ∀ S' L' vs', RI ps s S' L' h done → (∀ x ∈ S, x ∈ S') → (h = one → y ∈ S') → L'.length + S.length = L.length + S'.length → Q .nx env (rbst S' L' vs')) : okS b_reached_by_6 env (rbst S L vs) Q := by
  unfold b_reached_by_6
  walk_at "ev"
  rw [e4]
  walk_at "ev"
  rw [e7]
  walk_at "ev"
  rw [show look (rbst S L vs) (n2 h) = n2 h from rfl, show look (rbst S L vs) (n2 one) = n2 one from rfl, eq_n2]
  walk_at "ev"
  by_cases h1 : h = one
  · rw [if_pos h1, e8]
    walk_at "ev"
    rw [e2]
    walk_at "ev"
    rw [show look (rbst S L vs) (n2 y) = n2 y from rfl, notin_n2]
    walk_at "ev"
    by_cases h2 : y ∉ S
    · rw [if_pos h2, e2]
      walk_at "ev"
      rw [e8]
      walk_at "ev"
      have hS : S.length < sizeLine := by
        have := nodup_len r.nd r.sub
        rw [cand_len] at this
        have : 200002 < sizeLine := by decide
        omega
      have hL : L.length < sizeLine := Nat.lt_of_le_of_lt r.ll hS
      rw [setA_new (n := 0) (ks := S.map n2) (vs := vs) rfl (fun k hk => by obtain ⟨q, _, rfl⟩ := List.mem_map.mp hk; exact n2_can q) (n2_can y) rfl (by rw [n2_dep]; decide) (by rw [List.length_map]; exact hS) (by rw [mem_n2]; exact h2)]
      walk_at "ev"
      rw [e3]
      walk_at "ev"
      rw [e8]
      walk_at "ev"
      rw [mApp_l (n := 1) (a := L.map n2) rfl (by rw [List.length_map]; exact hL)]
      walk_at "ev"
      have r' := r.add h2 hc fun C hC z => ed C hC (h1 ▸ z)
      have := q (S ++ [y]) (L ++ [y]) (vs ++ [.bl true]) r' (fun x hx => List.mem_append_left _ hx) (fun _ => by simp) (by simp; omega)
      unfold rbst at this
      rw [List.map_append, List.map_append] at this
      exact this
    · rw [if_neg h2]
      exact q S L vs r (fun _ hx => hx) (fun _ => Classical.not_not.mp h2) (by omega)
  · rw [if_neg h1]
    exact q S L vs r (fun _ hx => hx) (fun e => absurd e h1) (by omega)
theorem map_snoc {α β : Type} {f : α → β} {ps : List α} {done rest : List β} {d : β} (e : ps.map f = done ++ d :: rest) : ∃ ps1 p ps2, ps = ps1 ++ p :: ps2 ∧ done = ps1.map f ∧ d = f p ∧ rest = ps2.map f := by
  obtain ⟨l1, l2, rfl, h1, h2⟩ := List.map_eq_append_iff.mp e
  obtain ⟨p, l3, rfl, h3, h4⟩ := List.map_eq_cons_iff.mp h2
  exact ⟨l1, p, l3, rfl, h1.symm, h3.symm, h4.symm⟩
theorem rb_turn {ps : List (Int × Int)} {s h : Int × Int} {S L : List (Int × Int)} {vs : List D} {P sd : D} {o5 o6 o7 o8 : Option D} {Q : Fl → Env → Sto → Prop} (hlen : ps.length ≤ 100000) (r : RI ps s S L h [])
    (q : ∀ S' L' vs' o5 o6 o7 o8, RI ps s S' L' h ps → L'.length + S.length = L.length + S'.length → Q .nx [some P, some sd, some (.ref 0), some (.ref 1), some (n2 h), o5, o6, o7, o8] (rbst S' L' vs')) :
    okFor (gTup 2 (gsCons (gNm 5) (gsCons (gNm 6) gsNil))) b_reached_by_5 (ps.map n2) [some P, some sd, some (.ref 0), some (.ref 1), some (n2 h), o5, o6, o7, o8] (rbst S L vs) Q := by
  refine for_inv (fun done rest env st => ∃ (S' L' : List (Int × Int)) (vs' : List D) (o5 o6 o7 o8 : Option D) (done' : List (Int × Int)), env = [some P, some sd, some (.ref 0), some (.ref 1), some (n2 h), o5, o6, o7, o8] ∧ st = rbst S' L' vs' ∧ done = done'.map n2 ∧ RI ps s S' L' h done' ∧ L'.length + S.length = L.length + S'.length) ⟨S, L, vs, o5, o6, o7, o8, [], rfl, rfl, rfl, r, rfl⟩ ?_ ?_
  · rintro done d rest env st e ⟨S1, L1, vs1, p5, p6, p7, p8, done', rfl, rfl, rfl, r1, l1⟩
    obtain ⟨ps1, p, ps2, rfl, e1, rfl, e2⟩ := map_snoc e
    have e3 : done' = ps1 := by
      have := congrArg List.length e1
      refine (List.map_inj_right fun a b => n2_inj).mp e1
    subst e3
    have hp : p ∈ done' ++ p :: ps2 := by simp
    show okG _ (.tup [.int p.1, .int p.2]) _ _ _
    walk_at "ev"
    unfold b_reached_by_5
    walk_at "ev"
    have c := cand_h (s := s) hp
    rw [for_cons]
    walk_at "ev"
    refine rb_one (y := (1, p.2)) (one := (0, p.1)) hlen r1 rfl rfl rfl rfl rfl c.2 (fun C hC => (hC p hp).mp) fun S2 L2 vs2 r2 s2 q2 l2 => ?_
    walk_at "ev"
    rw [for_cons]
    walk_at "ev"
    refine rb_one (y := (0, p.1)) (one := (1, p.2)) hlen r2 rfl rfl rfl rfl rfl c.1 (fun C hC => (hC p hp).mpr) fun S3 L3 vs3 r3 s3 q3 l3 => ?_
    walk_at "ev"
    rw [for_nil]
    walk_at "ev"
    exact ⟨S3, L3, vs3, _, _, _, _, done' ++ [p], rfl, rfl, by simp, r3.next (fun z => s3 _ (q2 z)) q3, by omega⟩
  · rintro env st ⟨S1, L1, vs1, p5, p6, p7, p8, done', rfl, rfl, e, r1, l1⟩
    have e3 : done' = ps := ((List.map_inj_right fun a b => n2_inj).mp e).symm
    subst e3
    exact q S1 L1 vs1 p5 p6 p7 p8 r1 l1
structure RT (ps : List (Int × Int)) (s : Int × Int) (S L : List (Int × Int)) : Prop where
  nd : S.Nodup
  st : s ∈ S
  sub : ∀ x ∈ S, x ∈ cand ps s
  lsub : ∀ x ∈ L, x ∈ S
  min : ∀ C : Int × Int → Prop, C s → Clo ps C → ∀ x ∈ S, C x
  out : ∀ x ∈ S, x ∉ L → nb ps x S
  ll : L.length ≤ S.length
theorem RT.pop {ps : List (Int × Int)} {s h : Int × Int} {S L : List (Int × Int)} (r : RT ps s S (L ++ [h])) : RI ps s S L h [] :=
  ⟨r.nd, r.st, r.sub, fun x hx => r.lsub x (List.mem_append_left _ hx), r.min, fun x hx hl hh => r.out x hx (fun z => by
    rcases List.mem_append.mp z with z | z
    · exact hl z
    · exact hh (List.mem_singleton.mp z)), r.lsub h (by simp), fun p hp => (by cases hp), by have := r.ll; rw [List.length_append] at this; omega⟩
theorem RI.end_ {ps : List (Int × Int)} {s h : Int × Int} {S L : List (Int × Int)} (r : RI ps s S L h ps) : RT ps s S L :=
  ⟨r.nd, r.st, r.sub, r.lsub, r.min, fun x hx hl => by
    by_cases e : x = h
    · rw [e]; exact r.own
    · exact r.out x hx hl e, r.ll⟩
theorem rb_while {ps : List (Int × Int)} {s : Int × Int} {sd : D} {Q : Fl → Env → Sto → Prop} (hlen : ps.length ≤ 100000) (q : ∀ S vs env, RT ps s S [] → env[2]? = some (some (.ref 0)) → Q .nx env (rbst S [] vs)) :
    ∀ (n : Nat) (S L : List (Int × Int)) (vs : List D) (o4 o5 o6 o7 o8 : Option D), RT ps s S L → L.length + (1 + 2 * ps.length - S.length) < n →
      okWhl n (tOf (eBin gGtI (eCall gLen [(eVar 3)]) (eC (.int 0)))) b_reached_by_3 [some (.tup (ps.map n2)), some sd, some (.ref 0), some (.ref 1), o4, o5, o6, o7, o8] (rbst S L vs) Q
  | 0, _, _, _, _, _, _, _, _, _, h => absurd h (Nat.not_lt_zero _)
  | n + 1, S, L, vs, o4, o5, o6, o7, o8, r, h => by
    rw [whl_succ]
    walk_at "ev"
    rcases List.eq_nil_or_concat L with rfl | ⟨L0, x, rfl⟩
    · rw [if_neg (by simp)]
      exact q S vs _ r rfl
    · rw [if_pos (by simp)]
      unfold b_reached_by_3
      walk_at "ev"
      rw [List.concat_eq_append] at *
      rw [mPop_l (n := 1) (a := L0.map n2) (d := n2 x) (show (rbst S (L0 ++ [x]) vs)[1]? = _ by rw [← List.map_singleton, ← List.map_append]; rfl)]
      walk_at "ev"
      refine rb_turn hlen r.pop fun S' L' vs' p5 p6 p7 p8 r' l' => ?_
      walk_at "ev"
      refine rb_while hlen q n S' L' vs' _ p5 p6 p7 p8 r'.end_ ?_
      have h1 := nodup_len r'.nd r'.sub
      rw [cand_len] at h1
      rw [List.length_append] at h
      simp only [List.length_cons, List.length_nil] at h
      omega
/-- what the search gives: just what is reached -/
structure Rch (ps : List (Int × Int)) (s : Int × Int) (S : List (Int × Int)) : Prop where
  nd : S.Nodup
  st : s ∈ S
  clo : Clo ps fun x => x ∈ S
  min : ∀ C : Int × Int → Prop, C s → Clo ps C → ∀ x ∈ S, C x
theorem RT.rch {ps : List (Int × Int)} {s : Int × Int} {S : List (Int × Int)} (r : RT ps s S []) : Rch ps s S :=
  ⟨r.nd, r.st, fun p hp => ⟨fun h => (r.out _ h List.not_mem_nil p hp).1 rfl, fun h => (r.out _ h List.not_mem_nil p hp).2 rfl⟩, r.min⟩
theorem f_reached {ps : List (Int × Int)} {s : Int × Int} {st : Sto} (hlen : ps.length ≤ 100000) : ∃ S, Rch ps s S ∧ F_reached_by [.tup (ps.map n2), n2 s] st = some (.lst (sortD (S.map n2)), st) := by
  suffices okF F_reached_by [.tup (ps.map n2), n2 s] st fun d s' => ∃ S, Rch ps s S ∧ kEq (.lst (sortD (S.map n2))) st d s' by
    unfold okF at this
    cases e : F_reached_by [.tup (ps.map n2), n2 s] st with
    | none => rw [e] at this; exact this.elim
    | some p =>
      rw [e] at this
      obtain ⟨d, s'⟩ := p
      obtain ⟨S, r, rfl, rfl⟩ := this
      exact ⟨S, r, rfl⟩
  unfold F_reached_by
  have hpd : isPds [.tup (ps.map n2), n2 s] = true := by
    rw [isPds_all]
    intro d hd
    simp only [List.mem_cons, List.not_mem_nil, or_false] at hd
    rcases hd with rfl | rfl
    · unfold isPd; exact pds_n2 ps
    · rfl
  refine okF_pure (okRs_pd hpd) (okF_body ?_)
  unfold b_reached_by
  show okS _ [some (.tup (ps.map n2)), some (n2 s), none, none, none, none, none, none, none] _ _
  walk_at "ev"
  rw [tkey_n2]
  walk_at "ev"
  refine rb_while (s := s) (sd := n2 s) hlen (fun S vs env r e => ?_) fuel [s] [s] [.bl true] _ _ _ _ _ ?_ ?_
  · walk_at "ev"
    rw [e]
    walk_at "ev"
    rw [sort_n2]
    walk_at "ev"
    rw [val_pd]
    · walk_at "ev"
      exact ⟨S, r.rch, k_eq⟩
    · unfold isPd
      rw [isPds_all]
      intro d hd
      exact isPds_all.mp (pds_n2 S) d (List.mem_mergeSort.mp hd)
  · refine ⟨by simp, by simp, fun x hx => ?_, fun x hx => hx, fun C h0 _ x hx => ?_, fun x hx hl => absurd hx hl, Nat.le_refl _⟩
    · rw [List.mem_singleton.mp hx]; unfold cand; exact List.mem_cons_self
    · rw [List.mem_singleton.mp hx]; exact h0
  · simp only [List.length_cons, List.length_nil]
    show _ < 1048576
    omega
/-! ### nest_holds -/
def start (a : Int) : Int × Int := if a > 0 then (0, 0) else (1, 0)
def NestP (a b : Int) (d : D) : Prop := ∃ ps : List (Int × Int), d = .tup (ps.map n2) ∧ (∀ p ∈ ps, (0 ≤ p.1 ∧ p.1 < a) ∧ 0 ≤ p.2 ∧ p.2 < b) ∧ a + b = ps.length + 1 ∧ ∃ S, Rch ps (start a) S ∧ (S.length : Int) = a + b
theorem pairB_iff {a b : Int} {d : D} : pairB a b d = true ↔ ∃ p, d = n2 p ∧ (0 ≤ p.1 ∧ p.1 < a) ∧ 0 ≤ p.2 ∧ p.2 < b := by
  constructor
  · intro h
    unfold pairB at h
    split at h
    · rename_i x y
      simp only [Bool.and_eq_true, decide_eq_true_eq] at h
      exact ⟨(x, y), rfl, h⟩
    · cases h
  · rintro ⟨p, rfl, h⟩
    unfold n2 pairB
    simp only [Bool.and_eq_true, decide_eq_true_eq]
    exact h
theorem pairs_of {a b : Int} : ∀ {ds : List D}, (∀ d ∈ ds, pairB a b d = true) → ∃ ps : List (Int × Int), ds = ps.map n2 ∧ ∀ p ∈ ps, (0 ≤ p.1 ∧ p.1 < a) ∧ 0 ≤ p.2 ∧ p.2 < b
  | [], _ => ⟨[], rfl, fun _ h => by cases h⟩
  | d :: ds, h => by
    obtain ⟨p, rfl, hp⟩ := pairB_iff.mp (h d List.mem_cons_self)
    obtain ⟨ps, rfl, q⟩ := pairs_of fun d hd => h d (List.mem_cons_of_mem _ hd)
    exact ⟨p :: ps, rfl, fun x hx => by
      rcases List.mem_cons.mp hx with rfl | hx
      · exact hp
      · exact q x hx⟩
theorem all_bl (f : D → Bool) (ds : List D) : gAll [.lst (ds.map fun d => .bl (f d))] = some (.bl (ds.all f)) := by
  have e : ∀ ds : List D, blsD (ds.map fun d => .bl (f d)) = some (ds.map f) := fun ds => by
    induction ds with
    | nil => rfl
    | cons d ds ih => rw [List.map_cons, List.map_cons]; show (blsD (ds.map fun d => .bl (f d))).map _ = _; rw [ih]; rfl
  show (blsD (ds.map fun d => .bl (f d))).map _ = _
  rw [e, Option.map_some, List.all_map]
  rfl
theorem Rch.len {ps : List (Int × Int)} {s : Int × Int} {S T : List (Int × Int)} (r : Rch ps s S) (q : Rch ps s T) : S.length = T.length :=
  Nat.le_antisymm (nodup_len r.nd fun x hx => r.min (fun x => x ∈ T) q.st q.clo x hx) (nodup_len q.nd fun x hx => q.min (fun x => x ∈ S) r.st r.clo x hx)
open Classical in
theorem f_nest {a b : Int} {d : D} {st : Sto} (h : isPd d = true) (hz : ∀ ds, d = .tup ds → ds.length ≤ 100000) : F_nest_holds [.int a, .int b, d] st = some (.bl (decide (NestP a b d)), st) := by
  refine okF_to ?_
  unfold F_nest_holds
  refine okF_pure (okRs_pd (by unfold isPds isPds isPds isPds; rw [h]; rfl)) (okF_body ?_)
  unfold b_nest_holds
  show okS _ [some (.int a), some (.int b), some d, none, none] _ _
  walk_at "ev"
  rw [k_isi_tuple h]
  cases d with
  | tup ds =>
    have hz := hz ds rfl
    walk_at "ev"
    rw [k_comp]
    have hpd : ∀ d ∈ ds, isPd d = true := by unfold isPd at h; exact isPds_all.mp h
    have e : gnL (gNm 4) tYesD (compL (emL (eFn 3 F_is_pair [eVar 0, eVar 1, eVar 4])) []) ds (wipeE [some (.int a), some (.int b), some (.tup ds), none, none] [4]) [] [] = some (ds.map fun d => .bl (pairB a b d), []) := by
      rw [gnL_pure (i := 4) (e := wipeE [some (.int a), some (.int b), some (.tup ds), none, none] [4]) (keep := fun _ => true) (val := fun d => .bl (pairB a b d)) [] _ [] ?_ ?_ _ (fun _ _ => rfl) rfl]
      · rw [List.nil_append, List.filter_eq_self.mpr (fun _ _ => rfl)]
      · have : 100000 ≤ sizeLine := by decide
        rw [List.length_nil]; omega
      · intro d e' hd h1 h2
        refine ⟨rfl, fun _ => ?_⟩
        have hl : 4 < e'.length := by rw [h2]; show 4 < 5; decide
        have ev : (e'.set 4 (some d))[4]? = some (some d) := List.getElem?_set_self hl
        have v0 : (e'.set 4 (some d))[0]? = some (some (.int a)) := by rw [List.getElem?_set_ne (by decide), h1 0 (by decide)]; rfl
        have v1 : (e'.set 4 (some d))[1]? = some (some (.int b)) := by rw [List.getElem?_set_ne (by decide), h1 1 (by decide)]; rfl
        simp only [eFn, aAll, eVar, ev, v0, v1, Option.bind_some, List.length_cons, List.length_nil, Nat.zero_add, Nat.reduceAdd, if_true]
        exact f_is_pair (hpd d hd)
    rw [e]
    walk_at "ev"
    rw [all_bl]
    walk_at "ev"
    cases ha : ds.all (pairB a b) with
    | false =>
      rw [decide_eq_false]
      · walk_at "ev"; exact k_eq
      · rintro ⟨ps, q, hp, _⟩
        injection q with q
        subst q
        rw [← Bool.not_eq_true] at ha
        refine ha (List.all_eq_true.mpr fun d hd => ?_)
        obtain ⟨p, hp', rfl⟩ := List.mem_map.mp hd
        exact pairB_iff.mpr ⟨p, rfl, hp p hp'⟩
    | true =>
      obtain ⟨ps, rfl, hp⟩ := pairs_of (List.all_eq_true.mp ha)
      walk_at "ev"
      rw [List.length_map]
      rw [List.length_map] at hz
      by_cases hs : a + b = (ps.length : Int) + 1
      · have e1 : (!a + b == (ps.length : Int) + 1) = false := by simpa using hs
        rw [e1, if_neg Bool.false_ne_true]
        have key : ∀ S, Rch ps (start a) S → D.bl (decide (NestP a b (.tup (ps.map n2)))) = .bl (((sortD (S.map n2)).length : Int) == a + b) := fun S r => by
          have hl : (sortD (S.map n2)).length = S.length := by unfold sortD; rw [List.length_mergeSort, List.length_map]
          rw [hl]
          congr 1
          rw [Bool.eq_iff_iff, decide_eq_true_eq, beq_iff_eq]
          constructor
          · rintro ⟨qs, e, _, _, T, t, q⟩
            injection e with e
            have e := (List.map_inj_right fun x y => n2_inj).mp e
            subst e
            rw [r.len t]; exact q
          · intro q
            exact ⟨ps, rfl, hp, hs, S, r, q⟩
        by_cases h0 : a > 0
        · rw [if_pos h0]
          obtain ⟨S, r, e⟩ := f_reached (ps := ps) (s := (0, 0)) (st := []) hz
          rw [okF_eq (show F_reached_by [.tup (ps.map n2), .tup [.int 0, .int 0]] [] = _ from e), key S (by unfold start; rw [if_pos h0]; exact r)]
          walk_at "ev"
          exact k_eq
        · rw [if_neg h0]
          obtain ⟨S, r, e⟩ := f_reached (ps := ps) (s := (1, 0)) (st := []) hz
          rw [okF_eq (show F_reached_by [.tup (ps.map n2), .tup [.int 1, .int 0]] [] = _ from e), key S (by unfold start; rw [if_neg h0]; exact r)]
          walk_at "ev"
          exact k_eq
      · have e1 : (!a + b == (ps.length : Int) + 1) = true := by simpa using hs
        rw [e1, if_pos rfl, decide_eq_false]
        · exact k_eq
        · rintro ⟨qs, e, _, q, _⟩
          injection e with e
          have e := (List.map_inj_right fun x y => n2_inj).mp e
          subst e
          exact hs q
  | _ => first | (walk_at "ev"; rw [decide_eq_false (by rintro ⟨ps, q, _⟩; cases q)]; exact k_eq) | (unfold isPd at h; cases h)
/-! ### the law's own look -/
def m2 (p : Int × Int) : D := .tup [.str (if p.1 = 0 then "high" else "low"), .int p.2]
theorem m2_hi {i : Int} : m2 (0, i) = .tup [.str "high", .int i] := rfl
theorem m2_lo {i : Int} : m2 (1, i) = .tup [.str "low", .int i] := rfl
theorem m2_can (p : Int × Int) : can (m2 p) = true := by
  unfold m2
  split <;> (simp only [can, cans, Bool.and_true]; decide +kernel)
theorem m2_dep (p : Int × Int) : dep (m2 p) = 1 := rfl
def ok01 (p : Int × Int) : Prop := p.1 = 0 ∨ p.1 = 1
theorem m2_inj {p q : Int × Int} (hp : ok01 p) (hq : ok01 q) (h : m2 p = m2 q) : p = q := by
  unfold m2 at h
  injection h with h
  injection h with h1 h2
  injection h1 with h1
  injection h2 with h2
  injection h2 with h2
  refine Prod.ext ?_ h2
  have ne : ¬ ("high" : Str) = "low" := by decide +kernel
  rcases hp with hp | hp <;> rcases hq with hq | hq <;> rw [hp, hq] at h1 ⊢
  · exact absurd h1 ne
  · exact absurd h1.symm ne
theorem mem_m2 {p : Int × Int} {S : List (Int × Int)} (hp : ok01 p) (hS : ∀ q ∈ S, ok01 q) : m2 p ∈ S.map m2 ↔ p ∈ S := by
  rw [List.mem_map]
  exact ⟨fun ⟨q, hq, e⟩ => m2_inj (hS q hq) hp e ▸ hq, fun h => ⟨p, h, rfl⟩⟩
theorem cans_m2 (S : List (Int × Int)) : cans (S.map m2) = true := by
  rw [cans_all]
  intro d hd
  obtain ⟨p, _, rfl⟩ := List.mem_map.mp hd
  exact m2_can p
theorem in_m2 {p : Int × Int} {S : List (Int × Int)} (hp : ok01 p) (hS : ∀ q ∈ S, ok01 q) : gInA (m2 p) (.lst (S.map m2)) = some (.bl (decide (p ∈ S))) := by
  classical
  rw [in_can_l (m2_can p) (by rw [m2_dep]; decide) (cans_m2 S)]
  congr 2
  rw [Bool.eq_iff_iff, decide_eq_true_eq, decide_eq_true_eq, mem_m2 hp hS]
theorem notin_m2 {p : Int × Int} {S : List (Int × Int)} (hp : ok01 p) (hS : ∀ q ∈ S, ok01 q) : gNotInA (m2 p) (.lst (S.map m2)) = some (.bl (decide (p ∉ S))) := by
  classical
  rw [notin_can_l (m2_can p) (by rw [m2_dep]; decide) (cans_m2 S)]
  congr 2
  rw [Bool.eq_iff_iff, decide_eq_true_eq, decide_eq_true_eq, mem_m2 hp hS]
/-- what is seen so far: M all there is -/
structure SE (ps : List (Int × Int)) (s : Int × Int) (M S : List (Int × Int)) : Prop where
  nd : S.Nodup
  st : s ∈ S
  sub : ∀ x ∈ S, x ∈ M
  min : ∀ C : Int × Int → Prop, C s → Clo ps C → ∀ x ∈ S, C x
theorem SE.add {ps : List (Int × Int)} {s y : Int × Int} {M S : List (Int × Int)} (r : SE ps s M S) (hy : y ∉ S) (hc : y ∈ M) (e : ∀ C : Int × Int → Prop, Clo ps C → (∀ x ∈ S, C x) → C y) : SE ps s M (S ++ [y]) :=
  ⟨List.nodup_append.mpr ⟨r.nd, by simp, fun a ha b hb => by rw [List.mem_singleton.mp hb]; exact fun z => hy (z ▸ ha)⟩, List.mem_append_left _ r.st, fun x hx => by
    rcases List.mem_append.mp hx with hx | hx
    · exact r.sub x hx
    · rw [List.mem_singleton.mp hx]; exact hc, fun C h0 hC x hx => by
    rcases List.mem_append.mp hx with hx | hx
    · exact r.min C h0 hC x hx
    · rw [List.mem_singleton.mp hx]; exact e C hC (r.min C h0 hC)⟩
theorem se_one {ps : List (Int × Int)} {s p : Int × Int} {M S : List (Int × Int)} {env : Env} {N B : Env → Sto → Prop} {R : D → Env → Sto → Prop} {o0 o1 o2 o3 o4 o6 o9 o10 : Option D} (hM : ∀ q ∈ M, ok01 q) (hz : M.length < 100000) (hp : p ∈ ps) (h1 : (0, p.1) ∈ M) (h2 : (1, p.2) ∈ M) (r : SE ps s M S)
    (q : ∀ S', SE ps s M S' → (S' = S ∧ ((0, p.1) ∈ S ↔ (1, p.2) ∈ S)) ∨ S.length < S'.length → N [o0, o1, o2, o3, o4, some (.ref 0), o6, some (.int p.1), some (.int p.2), o9, o10] [.lst (S'.map m2)]) :
    okS b__law_is_nest_11 [o0, o1, o2, o3, o4, some (.ref 0), o6, some (.int p.1), some (.int p.2), o9, o10] [.lst (S.map m2)] (kT2 N B R) := by
  have k0 : ok01 (0, p.1) := .inl rfl
  have k1 : ok01 (1, p.2) := .inr rfl
  have hz2 : 100000 < sizeLine := by decide
  have room : ∀ {S}, SE ps s M S → S.length < sizeLine := fun {S} r => by
    have := nodup_len r.nd r.sub
    omega
  -- the second test
  have two : ∀ S1, SE ps s M S1 → (S1 = S ∧ ((0, p.1) ∈ S → (1, p.2) ∈ S)) ∨ S.length < S1.length → okS (sIf (tAndT (tOf (eBin gInA (eTup [(eC (.str "low")), (eVar 8)]) (eVar 5))) (tOf (eBin gNotInA (eTup [(eC (.str "high")), (eVar 7)]) (eVar 5)))) (sExpr (eMethL mApp (eVar 5) [(eTup [(eC (.str "high")), (eVar 7)])])) sNil)
      [o0, o1, o2, o3, o4, some (.ref 0), o6, some (.int p.1), some (.int p.2), o9, o10] [.lst (S1.map m2)] (kT2 N B R) := by
    intro S1 r1 c1
    have hS : ∀ q ∈ S1, ok01 q := fun q hq => hM q (r1.sub q hq)
    walk_at "ev"
    rw [← m2_lo, in_m2 k1 hS]
    walk_at "ev"
    by_cases a1 : (1, p.2) ∈ S1
    · rw [if_pos a1, ← m2_hi, notin_m2 k0 hS]
      walk_at "ev"
      by_cases a2 : (0, p.1) ∉ S1
      · rw [if_pos a2]
        rw [mApp_l (n := 0) (a := S1.map m2) rfl (by rw [List.length_map]; exact room r1)]
        walk_at "ev"
        have := q (S1 ++ [(0, p.1)]) (r1.add a2 h1 fun C hC hS => (hC p hp).mpr (hS _ a1)) (.inr (by rw [List.length_append]; rcases c1 with ⟨rfl, _⟩ | c1 <;> simp <;> omega))
        rw [List.map_append] at this
        exact this
      · rw [if_neg a2]
        refine q S1 r1 ?_
        rcases c1 with ⟨rfl, c⟩ | c
        · exact .inl ⟨rfl, c, fun _ => Classical.not_not.mp a2⟩
        · exact .inr c
    · rw [if_neg a1]
      refine q S1 r1 ?_
      rcases c1 with ⟨rfl, c⟩ | c
      · exact .inl ⟨rfl, c, fun z => absurd z a1⟩
      · exact .inr c
  have hS : ∀ q ∈ S, ok01 q := fun q hq => hM q (r.sub q hq)
  unfold b__law_is_nest_11
  rw [ev_seq, ev_sif, ev_andT, ev_of, ev_bin]
  walk_at "ev"
  rw [← m2_hi, in_m2 k0 hS]
  walk_at "ev"
  by_cases a1 : (0, p.1) ∈ S
  · rw [if_pos a1, ← m2_lo, notin_m2 k1 hS]
    rw [okO_some, k_ret, k_of, k_sif]
    simp only [decide_eq_true_eq]
    by_cases a2 : (1, p.2) ∉ S
    · rw [if_pos a2]
      walk_at "ev"
      rw [mApp_l (n := 0) (a := S.map m2) rfl (by rw [List.length_map]; exact room r)]
      rw [okO_some, k_pr, k_nx, k_seq]
      have := two (S ++ [(1, p.2)]) (r.add a2 h2 fun C hC hS => (hC p hp).mp (hS _ a1)) (.inr (by rw [List.length_append]; simp))
      rw [List.map_append] at this
      exact this
    · rw [if_neg a2]
      exact two S r (.inl ⟨rfl, fun _ => Classical.not_not.mp a2⟩)
  · rw [if_neg a1]
    have z := two S r (.inl ⟨rfl, fun z => absurd z a1⟩)
    revert z
    walk_at "ev"
    exact id
theorem se_turn {ps : List (Int × Int)} {s : Int × Int} {M S : List (Int × Int)} {o0 o1 o2 o3 o4 o6 o7 o8 o9 o10 : Option D} {Q : Fl → Env → Sto → Prop} (hM : ∀ q ∈ M, ok01 q) (hz : M.length < 100000) (hps : ∀ p ∈ ps, (0, p.1) ∈ M ∧ (1, p.2) ∈ M) (r : SE ps s M S)
    (q : ∀ S' o7 o8, SE ps s M S' → (S' = S ∧ Clo ps fun x => x ∈ S) ∨ S.length < S'.length → Q .nx [o0, o1, o2, o3, o4, some (.ref 0), o6, o7, o8, o9, o10] [.lst (S'.map m2)]) :
    okFor (gTup 2 (gsCons (gNm 7) (gsCons (gNm 8) gsNil))) b__law_is_nest_11 (ps.map n2) [o0, o1, o2, o3, o4, some (.ref 0), o6, o7, o8, o9, o10] [.lst (S.map m2)] Q := by
  refine for_inv (fun done rest env st => ∃ (S' : List (Int × Int)) (o7 o8 : Option D) (done' : List (Int × Int)), env = [o0, o1, o2, o3, o4, some (.ref 0), o6, o7, o8, o9, o10] ∧ st = [.lst (S'.map m2)] ∧ done = done'.map n2 ∧ SE ps s M S' ∧ ((S' = S ∧ Clo done' fun x => x ∈ S) ∨ S.length < S'.length)) ⟨S, o7, o8, [], rfl, rfl, rfl, r, .inl ⟨rfl, fun p hp => by cases hp⟩⟩ ?_ ?_
  · rintro done d rest env st e ⟨S1, p7, p8, done', rfl, rfl, rfl, r1, l1⟩
    obtain ⟨ps1, p, ps2, rfl, e1, rfl, e2⟩ := map_snoc e
    have e3 : done' = ps1 := (List.map_inj_right fun a b => n2_inj).mp e1
    subst e3
    have hp : p ∈ done' ++ p :: ps2 := by simp
    show okG _ (.tup [.int p.1, .int p.2]) _ _ _
    walk_at "ev"
    refine se_one (ps := done' ++ p :: ps2) (s := s) (M := M) (env := []) hM hz hp (hps p hp).1 (hps p hp).2 r1 fun S2 r2 c2 => ?_
    refine ⟨S2, _, _, done' ++ [p], rfl, rfl, by simp, r2, ?_⟩
    rcases l1 with ⟨rfl, l1⟩ | l1
    · rcases c2 with ⟨rfl, c2⟩ | c2
      · refine .inl ⟨rfl, fun x hx => ?_⟩
        rcases List.mem_append.mp hx with hx | hx
        · exact l1 x hx
        · rw [List.mem_singleton.mp hx]; exact c2
      · exact .inr c2
    · rcases c2 with ⟨rfl, c2⟩ | c2
      · exact .inr l1
      · exact .inr (by omega)
  · rintro env st ⟨S1, p7, p8, done', rfl, rfl, e, r1, l1⟩
    have e3 : done' = ps := ((List.map_inj_right fun a b => n2_inj).mp e).symm
    subst e3
    exact q S1 p7 p8 r1 l1
theorem se_all {ps : List (Int × Int)} {s : Int × Int} {M S : List (Int × Int)} {o0 o1 o3 o4 o6 o7 o8 o9 o10 : Option D} {ds : List D} {Q : Fl → Env → Sto → Prop} (hM : ∀ q ∈ M, ok01 q) (hz : M.length < 100000) (hps : ∀ p ∈ ps, (0, p.1) ∈ M ∧ (1, p.2) ∈ M) (r : SE ps s M S) (hd : ds.length = M.length) (h1 : 1 ≤ S.length)
    (q : ∀ S' o6 o7 o8, Rch ps s S' → Q .nx [o0, o1, some (.tup (ps.map n2)), o3, o4, some (.ref 0), o6, o7, o8, o9, o10] [.lst (S'.map m2)]) :
    okFor (gNm 6) b__law_is_nest_10 ds [o0, o1, some (.tup (ps.map n2)), o3, o4, some (.ref 0), o6, o7, o8, o9, o10] [.lst (S.map m2)] Q := by
  refine for_inv (fun done rest env st => ∃ (S' : List (Int × Int)) (o6 o7 o8 : Option D), env = [o0, o1, some (.tup (ps.map n2)), o3, o4, some (.ref 0), o6, o7, o8, o9, o10] ∧ st = [.lst (S'.map m2)] ∧ SE ps s M S' ∧ (Clo ps (fun x => x ∈ S') ∨ done.length < S'.length)) ⟨S, o6, o7, o8, rfl, rfl, r, .inr h1⟩ ?_ ?_
  · rintro done d rest env st e ⟨S1, p6, p7, p8, rfl, rfl, r1, l1⟩
    walk_at "ev"
    unfold b__law_is_nest_10
    walk_at "ev"
    refine se_turn hM hz hps r1 fun S2 q7 q8 r2 c2 => ?_
    walk_at "ev"
    refine ⟨S2, _, q7, q8, rfl, rfl, r2, ?_⟩
    rcases c2 with ⟨rfl, c2⟩ | c2
    · exact .inl c2
    · rcases l1 with l1 | l1
      · -- closed already: nothing was added
        have := nodup_len r2.nd fun x hx => r2.min (fun x => x ∈ S1) r1.st l1 x hx
        omega
      · exact .inr (by rw [List.length_append]; simp; omega)
  · rintro env st ⟨S1, p6, p7, p8, rfl, rfl, r1, l1⟩
    refine q S1 p6 p7 p8 ⟨r1.nd, r1.st, ?_, r1.min⟩
    rcases l1 with l1 | l1
    · exact l1
    · have := nodup_len r1.nd r1.sub
      omega
theorem toPds_map : ∀ ds : List D, toPds ds = ds.map toPd
  | [] => rfl
  | d :: ds => by rw [List.map_cons]; unfold toPds; rw [toPds_map ds]
theorem layAll_iff : ∀ ds : List D, PyData.canLayAll0 (toPds ds) = true ↔ ∀ d ∈ ds, PyData.canLay0 (toPd d) = true
  | [] => ⟨fun _ _ h => (by cases h), fun _ => rfl⟩
  | d :: ds => by
    simp only [toPds, PyData.canLayAll0, Bool.and_eq_true, layAll_iff ds, List.mem_cons, forall_eq_or_imp]
theorem depAll_iff (n : Nat) : ∀ ds : List D, PyData.depthAll (toPds ds) ≤ n ↔ ∀ d ∈ ds, (toPd d).depth ≤ n
  | [] => ⟨fun _ _ h => (by cases h), fun _ => Nat.zero_le _⟩
  | d :: ds => by
    simp only [toPds, PyData.depthAll, Nat.max_le, depAll_iff n ds, List.mem_cons, forall_eq_or_imp]
theorem shp_tup {xs : List D} : shp (.tup xs) = true ↔ (∀ d ∈ xs, PyData.canLay0 (toPd d) = true) ∧ ∀ d ∈ xs, (toPd d).depth ≤ 63 := by
  unfold shp SeqAt.shaped
  simp only [toPd, PyData.canLay0, PyData.depth, Bool.and_eq_true, decide_eq_true_eq]
  rw [layAll_iff, show PyData.depthAll (toPds xs) + 1 ≤ 64 ↔ PyData.depthAll (toPds xs) ≤ 63 by omega, depAll_iff]
theorem shp_lst {xs : List D} : shp (.lst xs) = true ↔ (∀ d ∈ xs, PyData.canLay0 (toPd d) = true) ∧ ∀ d ∈ xs, (toPd d).depth ≤ 63 := by
  unfold shp SeqAt.shaped
  simp only [toPd, PyData.canLay0, PyData.depth, Bool.and_eq_true, decide_eq_true_eq]
  rw [layAll_iff, show PyData.depthAll (toPds xs) + 1 ≤ 64 ↔ PyData.depthAll (toPds xs) ≤ 63 by omega, depAll_iff]
theorem shp_sub {xs ys : List D} (h : shp (.tup xs) = true) (s : ∀ d ∈ ys, d ∈ xs) : shp (.lst ys) = true := by
  rw [shp_tup] at h
  exact shp_lst.mpr ⟨fun d hd => h.1 d (s d hd), fun d hd => h.2 d (s d hd)⟩
theorem ne_nil {xs : List D} (h : shp (.lst xs) = true) : gNe (.lst xs) (.lst []) = some (.bl (!xs.isEmpty)) := by
  unfold gNe
  rw [if_pos ⟨h, by rfl⟩]
  congr 3
  unfold eqD
  cases xs <;> rfl
theorem in_turn {a b : Int} {d : D} {o2 o4 o5 o6 o7 o8 o9 o10 : Option D} {N B : Env → Sto → Prop} {R : D → Env → Sto → Prop} (h : isPd d = true) (hs : shp d = true)
    (q1 : pairB a b d = true → N [some (.int a), some (.int b), o2, some d, o4, o5, o6, o7, o8, o9, o10] []) (q2 : pairB a b d = false → R (.bl false) [some (.int a), some (.int b), o2, some d, o4, o5, o6, o7, o8, o9, o10] []) :
    okS b__law_is_nest_3 [some (.int a), some (.int b), o2, some d, o4, o5, o6, o7, o8, o9, o10] [] (kT2 N B R) := by
  unfold b__law_is_nest_3
  walk_at "ev"
  rw [k_isi_tuple h]
  cases d with
  | tup ds =>
    walk_at "ev"
    by_cases hl : (ds.length : Int) = 2
    · obtain ⟨x, y, rfl⟩ : ∃ x y, ds = [x, y] := by
        match ds, hl with
        | [x, y], _ => exact ⟨x, y, rfl⟩
        | [], h => exact absurd h (by simp)
        | [_], h => exact absurd h (by simp)
        | _ :: _ :: _ :: _, h => exact absurd h (by simp; omega)
      obtain ⟨hx, hy⟩ := pds2 h
      have e1 : (!((([x, y] : List D).length : Int) == 2)) = false := by rfl
      rw [e1, if_neg Bool.false_ne_true, k_comp]
      have e : gnL (gNm 10) (tNotT (tTru (eFn 1 F__law_whole [eVar 10]))) (compL (emL (eVar 10)) []) [x, y] (wipeE [some (.int a), some (.int b), o2, some (.tup [x, y]), o4, o5, o6, o7, o8, o9, o10] [10]) [] [] = some (([x, y].filter fun d => !isI d).map id, []) := by
        rw [gnL_pure (i := 10) (e := wipeE [some (.int a), some (.int b), o2, some (.tup [x, y]), o4, o5, o6, o7, o8, o9, o10] [10]) (keep := fun d => !isI d) (val := id) [] _ [] ?_ ?_ _ (fun _ _ => rfl) rfl]
        · rw [List.nil_append]
        · have : 2 ≤ sizeLine := by decide
          simpa using this
        · intro d e' hd h1 h2
          have hp : isPd d = true := by
            simp only [List.mem_cons, List.not_mem_nil, or_false] at hd
            rcases hd with rfl | rfl
            · exact hx
            · exact hy
          have hl : 10 < e'.length := by rw [h2]; show 10 < 11; decide
          have ev : (e'.set 10 (some d))[10]? = some (some d) := List.getElem?_set_self hl
          refine ⟨?_, fun _ => ?_⟩
          · simp only [tNotT, tTru, eFn, aAll, eVar, ev, Option.bind_some, List.length_cons, List.length_nil, Nat.zero_add, if_true, f_whole hp, lk_bl, tru_b]
          · simp only [eVar, ev, id]
      rw [e, List.map_id, okO_some, k_finL]
      walk_at "ev"
      rw [ne_nil (shp_sub hs fun d hd => (List.mem_filter.mp hd).1)]
      walk_at "ev"
      cases hix : isI x with
      | false =>
        rw [List.filter_cons_of_pos (by rw [hix]; rfl)]
        simp only [List.isEmpty_cons, Bool.not_false, if_true]
        refine q2 ?_
        cases x <;> first | rfl | cases hix
      | true =>
        cases hiy : isI y with
        | false =>
          rw [List.filter_cons_of_neg (by rw [hix]; exact Bool.false_ne_true), List.filter_cons_of_pos (by rw [hiy]; rfl)]
          simp only [List.isEmpty_cons, Bool.not_false, if_true]
          refine q2 ?_
          cases x <;> first | (cases y <;> first | rfl | cases hiy) | cases hix
        | true =>
          rw [List.filter_cons_of_neg (by rw [hix]; exact Bool.false_ne_true), List.filter_cons_of_neg (by rw [hiy]; exact Bool.false_ne_true)]
          cases x with
          | int x =>
            cases y with
            | int y =>
              simp only [List.filter_nil, List.isEmpty_nil, Bool.not_true, Bool.false_eq_true, if_false]
              walk_at "ev"
              have e : pairB a b (.tup [.int x, .int y]) = (decide (0 ≤ x ∧ x < a) && decide (0 ≤ y ∧ y < b)) := rfl
              rw [e] at q1 q2
              by_cases h1 : 0 ≤ x <;> by_cases h2 : x < a <;> by_cases h3 : 0 ≤ y <;> by_cases h4 : y < b <;>
                (simp only [h1, h2, h3, h4, if_true, if_false, decide_true, decide_false, and_self, and_true, true_and, and_false, false_and, Bool.and_true, Bool.and_false, Bool.true_and, Bool.false_and, Bool.false_eq_true, Bool.not_true, Bool.not_false, forall_const, true_implies, false_implies] at q1 q2 ⊢; assumption)
            | _ => cases hiy
          | _ => cases hix
    · have e1 : (!((ds.length : Int) == 2)) = true := by simpa using hl
      rw [e1, if_pos rfl]
      refine q2 ?_
      unfold pairB
      split
      · rename_i q
        cases q
        exact absurd rfl hl
      · rfl
  | _ => first | (walk_at "ev"; exact q2 rfl) | (unfold isPd at h; cases h)
def marks (a b : Int) : List (Int × Int) := (List.range a.toNat).map (fun i : Nat => ((0 : Int), (i : Int))) ++ (List.range b.toNat).map (fun i : Nat => ((1 : Int), (i : Int)))
theorem marks_len {a b : Int} (ha : 0 ≤ a) (hb : 0 ≤ b) : ((marks a b).length : Int) = a + b := by
  unfold marks
  rw [List.length_append, List.length_map, List.length_map, List.length_range, List.length_range]
  omega
theorem marks_ok {a b : Int} : ∀ q ∈ marks a b, ok01 q := fun q hq => by
  unfold marks at hq
  rcases List.mem_append.mp hq with h | h
  · obtain ⟨i, _, rfl⟩ := List.mem_map.mp h; exact .inl rfl
  · obtain ⟨i, _, rfl⟩ := List.mem_map.mp h; exact .inr rfl
theorem marks_hi {a b x : Int} (h0 : 0 ≤ x) (h : x < a) : (0, x) ∈ marks a b := by
  unfold marks
  refine List.mem_append_left _ (List.mem_map.mpr ⟨x.toNat, List.mem_range.mpr (by omega), ?_⟩)
  rw [Int.toNat_of_nonneg h0]
theorem marks_lo {a b x : Int} (h0 : 0 ≤ x) (h : x < b) : (1, x) ∈ marks a b := by
  unfold marks
  refine List.mem_append_right _ (List.mem_map.mpr ⟨x.toNat, List.mem_range.mpr (by omega), ?_⟩)
  rw [Int.toNat_of_nonneg h0]
theorem marks_first {a b : Int} (ha : 0 ≤ a) (hb : 0 ≤ b) (h : 1 ≤ a + b) : (marks a b).take 1 = [start a] := by
  unfold marks start
  by_cases h0 : a > 0
  · rw [if_pos h0]
    obtain ⟨n, hn⟩ : ∃ n, a.toNat = n + 1 := ⟨a.toNat - 1, by omega⟩
    rw [hn, List.range_succ_eq_map]; rfl
  · rw [if_neg h0]
    have : a = 0 := by omega
    subst this
    obtain ⟨n, hn⟩ : ∃ n, b.toNat = n + 1 := ⟨b.toNat - 1, by omega⟩
    rw [hn, List.range_succ_eq_map]; rfl
theorem gn_marks {i : Nat} {env : Env} {w : Str} {n : Nat} (hn : n ≤ 100000) (hi : i < env.length) : gnL (gNm i) tYesD (compL (emL (eTup [(eC (.str w)), (eVar i)])) []) (rngD 0 n) (wipeE env [i]) [] [] = some ((List.range n).map fun j => .tup [.str w, .int (j : Int)], []) := by
  rw [gnL_pure (i := i) (e := wipeE env [i]) (keep := fun _ => true) (val := fun d => .tup [.str w, d]) [] _ [] ?_ ?_ _ (fun _ _ => rfl) rfl]
  · rw [List.nil_append, List.filter_eq_self.mpr (fun _ _ => rfl)]
    unfold rngD
    rw [List.map_map]
    congr 2
    refine List.map_congr_left fun j _ => ?_
    simp
  · have : 100000 ≤ sizeLine := by decide
    rw [List.length_nil, rngD_length]; omega
  · intro d e' hd h1 h2
    refine ⟨rfl, fun _ => ?_⟩
    have hl : i < e'.length := by rw [h2, wipeE_length]; exact hi
    have ev : (e'.set i (some d))[i]? = some (some d) := List.getElem?_set_self hl
    simp only [eTup, aAll, eC, eVar, ev, Option.bind_some]
open Classical in
theorem f_is_nest {a b : Int} {d : D} {st : Sto} (h : isPd d = true) (hz : ∀ ds, d = .tup ds → ds.length ≤ 1000 ∧ ∀ x ∈ ds, shp x = true) (ha : 0 ≤ a) (hb : 0 ≤ b) : F__law_is_nest [.int a, .int b, d] st = some (.bl (decide (NestP a b d)), st) := by
  refine okF_to ?_
  unfold F__law_is_nest
  refine okF_pure (okRs_pd (by unfold isPds isPds isPds isPds; rw [h]; rfl)) (okF_body ?_)
  unfold b__law_is_nest
  show okS _ [some (.int a), some (.int b), some d, none, none, none, none, none, none, none, none] _ _
  walk_at "ev"
  rw [k_isi_tuple h]
  cases d with
  | tup ds =>
    obtain ⟨hz, hsh⟩ := hz ds rfl
    have hpd : ∀ d ∈ ds, isPd d = true := by unfold isPd at h; exact isPds_all.mp h
    walk_at "ev"
    by_cases hs : a + b = (ds.length : Int) + 1
    · have e1 : (!a + b == (ds.length : Int) + 1) = false := by simpa using hs
      rw [e1, if_neg Bool.false_ne_true]
      refine for_inv (fun done rest env st' => ∃ o3 : Option D, env = [some (.int a), some (.int b), some (.tup ds), o3, none, none, none, none, none, none, none] ∧ st' = [] ∧ ∀ d ∈ done, pairB a b d = true) ⟨_, rfl, rfl, fun _ h => by cases h⟩ ?_ ?_
      · rintro done d rest env st' e ⟨o3, rfl, rfl, hd⟩
        have hm : d ∈ ds := by rw [e]; simp
        walk_at "ev"
        refine in_turn (hpd d hm) (hsh d hm) (fun q => ⟨_, rfl, rfl, fun x hx => ?_⟩) fun q => ?_
        · rcases List.mem_append.mp hx with hx | hx
          · exact hd x hx
          · rw [List.mem_singleton.mp hx]; exact q
        · walk_at "ev"
          rw [decide_eq_false]
          · exact k_eq
          · rintro ⟨ps, z, hp, _⟩
            injection z with z
            subst z
            obtain ⟨p, hp', rfl⟩ := List.mem_map.mp hm
            rw [pairB_iff.mpr ⟨p, rfl, hp p hp'⟩] at q
            cases q
      · rintro env st' ⟨o3, rfl, rfl, hd⟩
        obtain ⟨ps, rfl, hp⟩ := pairs_of hd
        rw [List.length_map] at hs hz
        walk_at "ev"
        rw [if_pos ⟨by omega, by omega⟩, k_comp, gn_marks (by omega) (by show 9 < 11; decide)]
        walk_at "ev"
        rw [if_pos ⟨by omega, by omega⟩, k_comp, gn_marks (by omega) (by show 9 < 11; decide)]
        walk_at "ev"
        have e2 : (List.range a.toNat).map (fun j : Nat => D.tup [.str "high", .int (j : Int)]) ++ (List.range b.toNat).map (fun j : Nat => D.tup [.str "low", .int (j : Int)]) = (marks a b).map m2 := by
          unfold marks
          rw [List.map_append, List.map_map, List.map_map]
          rfl
        have hsz : 2000 ≤ sizeLine := by decide
        have hml := marks_len ha hb
        rw [if_pos (by rw [List.length_map, List.length_map, List.length_range, List.length_range]; omega), e2, cut_to _ (by decide)]
        rw [show (1 : Int).toNat = 1 from rfl, ← List.map_take, marks_first ha hb (by omega)]
        walk_at "ev"
        refine se_all (ps := ps) (s := start a) (M := marks a b) (S := [start a]) marks_ok (by omega) (fun p hp' => ⟨marks_hi (hp p hp').1.1 (hp p hp').1.2, marks_lo (hp p hp').2.1 (hp p hp').2.2⟩) ?_ (by rw [List.length_map]) (Nat.le_refl _) fun S p6 p7 p8 r => ?_
        · refine ⟨by simp, by simp, fun x hx => ?_, fun C h0 _ x hx => ?_⟩
          · rw [← marks_first ha hb (by omega)] at hx
            exact List.mem_of_mem_take hx
          · rw [List.mem_singleton.mp hx]; exact h0
        · walk_at "ev"
          rw [List.length_map, List.length_map, hml]
          have key : ((S.length : Int) == a + b) = decide (NestP a b (.tup (ps.map n2))) := by
            rw [Bool.eq_iff_iff, decide_eq_true_eq, beq_iff_eq]
            constructor
            · intro q
              exact ⟨ps, rfl, hp, hs, S, r, q⟩
            · rintro ⟨qs, e, _, _, T, t, q⟩
              injection e with e
              have e := (List.map_inj_right fun x y => n2_inj).mp e
              subst e
              rw [r.len t]; exact q
          rw [key]
          exact k_eq
    · have e1 : (!a + b == (ds.length : Int) + 1) = true := by simpa using hs
      rw [e1, if_pos rfl, decide_eq_false]
      · exact k_eq
      · rintro ⟨qs, e, _, q, _⟩
        injection e with e
        subst e
        rw [List.length_map] at hs
        exact hs q
  | _ => first | (walk_at "ev"; rw [decide_eq_false (by rintro ⟨ps, q, _⟩; cases q)]; exact k_eq) | (unfold isPd at h; cases h)
/-! ### what is bent -/
inductive Gd (B : Nat) : Nat → D → Prop
  | non {n : Nat} : Gd B n .non
  | bl {n : Nat} {b : Bool} : Gd B n (.bl b)
  | int {n : Nat} {i : Int} : Gd B n (.int i)
  | str {n : Nat} {x : Str} : PyData.strOk x = true → Gd B n (.str x)
  | tup {n : Nat} {ds : List D} : ds.length ≤ B → (∀ d ∈ ds, Gd B n d) → Gd B (n + 1) (.tup ds)
  | lst {n : Nat} {ds : List D} : ds.length ≤ B → (∀ d ∈ ds, Gd B n d) → Gd B (n + 1) (.lst ds)
theorem Gd.mono {B B' : Nat} (hB : B ≤ B') : ∀ {n n' : Nat} {d : D}, n ≤ n' → Gd B n d → Gd B' n' d
  | _, _, _, _, .non => .non
  | _, _, _, _, .bl => .bl
  | _, _, _, _, .int => .int
  | _, _, _, _, .str h => .str h
  | n + 1, n' + 1, _, h, .tup hl hd => .tup (Nat.le_trans hl hB) fun d m => (hd d m).mono hB (Nat.le_of_succ_le_succ h)
  | n + 1, n' + 1, _, h, .lst hl hd => .lst (Nat.le_trans hl hB) fun d m => (hd d m).mono hB (Nat.le_of_succ_le_succ h)
theorem Gd.pd {B : Nat} : ∀ {n : Nat} {d : D}, Gd B n d → isPd d = true
  | _, _, .non => rfl
  | _, _, .bl => rfl
  | _, _, .int => rfl
  | _, _, .str _ => rfl
  | _, _, .tup _ hd => by unfold isPd; exact isPds_all.mpr fun d m => (hd d m).pd
  | _, _, .lst _ hd => by unfold isPd; exact isPds_all.mpr fun d m => (hd d m).pd
theorem Gd.lay {B : Nat} : ∀ {n : Nat} {d : D}, Gd B n d → PyData.canLay0 (toPd d) = true ∧ (toPd d).depth ≤ n
  | _, _, .non => ⟨rfl, Nat.zero_le _⟩
  | _, _, .bl => ⟨rfl, Nat.zero_le _⟩
  | _, _, .int => ⟨rfl, Nat.zero_le _⟩
  | _, _, .str h => ⟨h, Nat.zero_le _⟩
  | _, _, .tup _ hd => by
    simp only [toPd, PyData.canLay0, PyData.depth]
    exact ⟨(layAll_iff _).mpr fun d m => (hd d m).lay.1, Nat.succ_le_succ ((depAll_iff _ _).mpr fun d m => (hd d m).lay.2)⟩
  | _, _, .lst _ hd => by
    simp only [toPd, PyData.canLay0, PyData.depth]
    exact ⟨(layAll_iff _).mpr fun d m => (hd d m).lay.1, Nat.succ_le_succ ((depAll_iff _ _).mpr fun d m => (hd d m).lay.2)⟩
theorem Gd.shp {B n : Nat} {d : D} (h : Gd B n d) (hn : n ≤ 64) : Pv.shp d = true := by
  unfold Pv.shp SeqAt.shaped
  rw [h.lay.1]
  simpa using Nat.le_trans h.lay.2 hn
theorem gd_n2 {B n : Nat} (hB : 2 ≤ B) (p : Int × Int) : Gd B (n + 1) (n2 p) := .tup hB fun d hd => by
  simp only [List.mem_cons, List.not_mem_nil, or_false] at hd
  rcases hd with rfl | rfl <;> exact .int
theorem f_odd {cells : List Int} {c B n : Nat} {rest : Sto} {Q : D → Sto → Prop} (hc : c < 2 ^ 39) (hB : 3 ≤ B) (hn : 2 ≤ n) (q : ∀ d cells', Gd B n d → Q d (dk cells' (c + 1) rest)) : okF F__law_odd [.ref 1] (dk cells c rest) Q := by
  unfold F__law_odd
  refine okF_body ?_
  unfold b__law_odd
  show okS _ [some (.ref 1), none] _ _
  walk_at "ev"
  rw [if_pos (by decide)]
  refine f_draw (by decide) (by decide) (Nat.lt_trans hc (by decide)) fun v cells' _ h0 h1 => ?_
  walk_at "ev"
  refine okO_at h0 (by simpa using h1) fun d hd => ?_
  walk_at "ev"
  refine q d cells' ?_
  obtain ⟨m, rfl⟩ : ∃ m, n = m + 2 := ⟨n - 2, by omega⟩
  have z3 : ∀ x ∈ [D.int 0, D.int 0, D.int 0], Gd B m x := fun x hx => by
    simp only [List.mem_cons, List.not_mem_nil, or_false] at hx
    rcases hx with rfl | rfl | rfl <;> exact .int
  simp only [List.mem_cons, List.not_mem_nil, or_false] at hd
  rcases hd with rfl | rfl | rfl | rfl | rfl | rfl | rfl | rfl | rfl | rfl | rfl | rfl | rfl | rfl | rfl | rfl
  · exact .non
  · exact .bl
  · exact .bl
  · exact .int
  · exact .int
  · exact .int
  · exact .int
  · exact .int
  · exact .str (by decide +kernel)
  · exact .str (by decide +kernel)
  · exact .tup (Nat.zero_le _) fun d hd => (by cases hd)
  · exact .tup (by simp; omega) fun d hd => (by rw [List.mem_singleton.mp hd]; exact .int)
  · exact .tup hB fun d hd => (z3 d hd).mono (Nat.le_refl _) (by omega)
  · exact .lst (Nat.zero_le _) fun d hd => (by cases hd)
  · exact .lst (by simp; omega) fun d hd => (by rw [List.mem_singleton.mp hd]; exact .int)
  · refine .tup (by simp; omega) fun d hd => ?_
    simp only [List.mem_cons, List.not_mem_nil, or_false] at hd
    rcases hd with rfl | rfl <;> exact .tup hB z3
theorem bent_t8 {cells : List Int} {c B n : Nat} {d : D} {way : Int} {o2 o4 o5 : Option D} {Q : D → Sto → Prop} (hc : c < 2 ^ 38) (hB : 3 ≤ B) (hn : 2 ≤ n) (h : Gd B n d) (q : ∀ d' cells' c', c' ≤ c + 2 → Gd (B + 1) n d' → Q d' (dk cells' c' [])) :
    okS b__law_bent_t8 [some (.ref 1), some d, o2, some (.int way), o4, o5] (dk cells c []) (kBody Q) := by
  have odd : okF F__law_odd [.ref 1] (dk cells c []) Q := f_odd (Nat.lt_trans hc (by decide)) (show 3 ≤ B + 1 by omega) hn fun d' cells' g => q d' cells' _ (by omega) g
  unfold b__law_bent_t8
  walk_at "ev"
  rw [k_isi_int h.pd]
  cases d with
  | int i =>
    walk_at "ev"
    by_cases hw : way > 0
    · rw [if_pos hw]
      refine f_draw (by decide) (by decide) (Nat.lt_trans hc (by decide)) fun v cells' _ h0 h1 => ?_
      walk_at "ev"
      refine okO_at h0 (by simpa using h1) fun d hd => ?_
      walk_at "ev"
      refine q d cells' _ (by omega) ?_
      simp only [List.mem_cons, List.not_mem_nil, or_false] at hd
      rcases hd with rfl | rfl | rfl | rfl | rfl <;> exact .int
    · rw [if_neg hw]
      exact odd
  | bl b =>
    walk_at "ev"
    exact odd
  | _ => first | (walk_at "ev"; exact odd) | (have := h.pd; unfold isPd at this; cases this)
theorem bent_t4 {cells : List Int} {c B n : Nat} {d : D} {o2 o4 o5 : Option D} {Q : D → Sto → Prop} (hc : c < 2 ^ 37) (hB : 3 ≤ B) (hB2 : B ≤ 10000) (hn : 3 ≤ n) (h : Gd B n d) (q : ∀ d' cells' c', c' ≤ c + 3 → Gd (B + 1) n d' → Q d' (dk cells' c' [])) :
    okS b__law_bent_t4 [some (.ref 1), some d, o2, none, o4, o5] (dk cells c []) (kBody Q) := by
  unfold b__law_bent_t4
  walk_at "ev"
  refine f_draw (by decide) (by decide) (Nat.lt_trans hc (by decide)) fun way cells1 _ h0 h1 => ?_
  walk_at "ev"
  rw [k_isi_tuple h.pd]
  have t8 : ∀ o5, okS b__law_bent_t8 [some (.ref 1), some d, o2, some (.int way), o4, o5] (dk cells1 (c + 1) []) (kBody Q) := fun o5 => by
    have p : (2 : Nat) ^ 37 + 1 < 2 ^ 38 := by decide
    exact bent_t8 (by omega) hB (by omega) h fun d' cells' c' hc' g => q d' cells' c' (by omega) g
  cases d with
  | tup ds =>
    walk_at "ev"
    by_cases hw : way > 0
    · rw [if_pos hw]
      refine f_odd (B := B + 1) (n := n - 1) (by have : (2 : Nat) ^ 37 + 1 < 2 ^ 39 := by decide
                                                 omega) (by omega) (by omega) fun x cells2 gx => ?_
      have hz : 30000 ≤ sizeLine := by decide
      obtain ⟨m, rfl⟩ : ∃ m, n = m + 1 := ⟨n - 1, by omega⟩
      have hl : ds.length ≤ B := by cases h with | tup hl _ => exact hl
      have hd : ∀ y ∈ ds, Gd (B + 1) m y := by cases h with | tup _ hd => exact fun y hy => (hd y hy).mono (Nat.le_succ _) (Nat.le_refl _)
      have cl := fun lo hi => cut_len ds lo hi
      have cm : ∀ lo hi, ∀ y ∈ cutD ds lo hi, Gd (B + 1) m y := fun lo hi y hy => hd y (cut_mem hy)
      walk_at "ev"
      rw [if_pos (by omega), if_pos (by have := cl (some (-1)) none; omega), if_pos (by have := cl (some 1) none; have := cl none (some 1); omega), if_pos (by omega)]
      refine f_draw (by decide) (by decide) (by have : (2 : Nat) ^ 37 + 2 < 2 ^ 40 := by decide
                                                omega) fun v cells3 _ v0 v1 => ?_
      walk_at "ev"
      refine okO_at v0 (by simpa using v1) fun y hy => ?_
      walk_at "ev"
      refine q y cells3 _ (by omega) ?_
      simp only [List.mem_cons, List.not_mem_nil, or_false] at hy
      rcases hy with rfl | rfl | rfl | rfl | rfl | rfl
      · exact .lst (by omega) hd
      · refine .tup (by simp; omega) fun y hy => ?_
        rcases List.mem_append.mp hy with hy | hy
        · exact hd y hy
        · rw [List.mem_singleton.mp hy]; exact gx
      · exact .tup (Nat.le_trans (cl _ _) (by omega)) (cm _ _)
      · exact .tup (by rw [List.length_reverse]; omega) fun y hy => hd y (List.mem_reverse.mp hy)
      · refine .tup ?_ fun y hy => ?_
        · have : (cutD ds (some (-1)) none).length ≤ 1 := by
            unfold cutD
            rw [List.length_take, List.length_drop, HT.sIx_none]
            have : HT.sIx ds.length 0 (some (-1)) = ds.length - 1 := by
              show (if (-1 : Int) < 0 then ((-1 : Int) + ds.length).toNat else min (-1 : Int).toNat ds.length) = _
              rw [if_pos (by decide)]; omega
            omega
          rw [List.length_append]; omega
        · rcases List.mem_append.mp hy with hy | hy
          · exact hd y hy
          · exact cm _ _ y hy
      · refine .tup ?_ fun y hy => ?_
        · rw [cut_from _ (by decide), cut_to _ (by decide), List.length_append, List.length_drop, List.length_take]
          have : (1 : Int).toNat = 1 := rfl
          omega
        · rcases List.mem_append.mp hy with hy | hy
          · exact cm _ _ y hy
          · exact cm _ _ y hy
    · rw [if_neg hw]
      exact t8 _
  | _ => first | (walk_at "ev"; exact t8 _) | (have := h.pd; unfold isPd at this; cases this)
theorem soR_dk {cells : List Int} {c : Nat} : ((dk cells c []).take 2).all (soR 2) = true := by
  have : ∀ l : List Int, okRs 2 (l.map D.int) = true := fun l => by
    induction l with
    | nil => rfl
    | cons a l ih => rw [List.map_cons]; unfold okRs; rw [ih]; rfl
  show (okRs 2 (cells.map .int) && (okRs 2 [.ref 0, .int c] && true)) = true
  rw [this]
  rfl
theorem k_trunc_dk {cells : List Int} {c : Nat} {d : D} {Q : D → Sto → Prop} (h : isPd d = true) (q : Q d (dk cells c [])) : kTrunc 2 Q d (dk cells c []) := ⟨soR_dk, by rw [val_pd h]; exact q⟩
theorem f_bent : ∀ (k : Nat) {cells : List Int} {c B n : Nat} {d : D} {deep : Int} {Q : D → Sto → Prop}, deep ≤ k → c + 5 * (k + 1) < 2 ^ 36 → 3 ≤ B → B ≤ 10000 → 3 + k ≤ n → Gd B n d → (∀ d' cells' c', c' ≤ c + 5 * (k + 1) → Gd (B + 1) n d' → Q d' (dk cells' c' [])) →
    okF (F__law_bent (k + 1)) [.ref 1, d, .int deep] (dk cells c []) Q := by
  intro k
  induction k with
  | zero =>
    intro cells c B n d deep Q hk hc hB hB2 hn h q
    show okF (truncF _) _ _ _
    refine okF_trunc (okF_body ?_)
    show okS (b__law_bent _) [some (.ref 1), some d, some (.int deep), none, none, none] _ (kBody (kTrunc 2 Q))
    have t4 : okS b__law_bent_t4 [some (.ref 1), some d, some (.int deep), none, none, none] (dk cells c []) (kBody (kTrunc 2 Q)) := by
      have p : (2 : Nat) ^ 36 < 2 ^ 37 := by decide
      exact bent_t4 (by omega) hB hB2 (by omega) h fun d' cells' c' hc' g => k_trunc_dk g.pd (q d' cells' c' (by omega) g)
    unfold b__law_bent
    walk_at "ev"
    rw [k_isi_tuple h.pd]
    cases d with
    | tup ds =>
      walk_at "ev"
      by_cases hl : (ds.length : Int) > 0
      · rw [if_pos hl, if_neg (by omega)]
        exact t4
      · rw [if_neg hl]
        exact t4
    | _ => first | (walk_at "ev"; exact t4) | (have := h.pd; unfold isPd at this; cases this)
  | succ k ih =>
    intro cells c B n d deep Q hk hc hB hB2 hn h q
    show okF (truncF _) _ _ _
    refine okF_trunc (okF_body ?_)
    show okS (b__law_bent (F__law_bent (k + 1))) [some (.ref 1), some d, some (.int deep), none, none, none] _ (kBody (kTrunc 2 Q))
    have p : (2 : Nat) ^ 36 < 2 ^ 37 := by decide
    have t4 : ∀ cells c1, c1 ≤ c + 1 → okS b__law_bent_t4 [some (.ref 1), some d, some (.int deep), none, none, none] (dk cells c1 []) (kBody (kTrunc 2 Q)) := fun cells c1 h1 =>
      bent_t4 (by omega) hB hB2 (by omega) h fun d' cells' c' hc' g => k_trunc_dk g.pd (q d' cells' c' (by omega) g)
    unfold b__law_bent
    walk_at "ev"
    rw [k_isi_tuple h.pd]
    cases d with
    | tup ds =>
      walk_at "ev"
      by_cases hl : (ds.length : Int) > 0
      · rw [if_pos hl]
        by_cases hd0 : deep > 0
        · rw [if_pos hd0]
          refine f_draw (by decide) (by decide) (by have : (2 : Nat) ^ 36 < 2 ^ 40 := by decide
                                                    omega) fun v cells1 _ v0 v1 => ?_
          walk_at "ev"
          by_cases hv : v > 0
          · rw [if_pos hv]
            obtain ⟨m, rfl⟩ : ∃ m, n = m + 1 := ⟨n - 1, by omega⟩
            have hlen : ds.length ≤ B := by cases h with | tup hl _ => exact hl
            have hd : ∀ y ∈ ds, Gd B m y := by cases h with | tup _ hd => exact hd
            refine f_draw hl (by omega) (by have : (2 : Nat) ^ 36 < 2 ^ 40 := by decide
                                            omega) fun at_ cells2 _ a0 a1 => ?_
            walk_at "ev"
            obtain ⟨y, hy, ey⟩ := at_in a0 a1
            rw [ey]
            walk_at "ev"
            refine ih (B := B) (n := m) (by omega) (by omega) hB hB2 (by omega) (hd y hy) fun d' cells3 c3 hc3 g => ?_
            walk_at "ev"
            have hz : 30000 ≤ sizeLine := by decide
            rw [cut_to _ a0, cut_from _ (by omega)]
            rw [if_pos (by rw [List.length_take]; omega), if_pos (by rw [List.length_append, List.length_take, List.length_drop]; simp; omega)]
            have gd : Gd (B + 1) (m + 1) (.tup (ds.take at_.toNat ++ [d'] ++ ds.drop (at_ + 1).toNat)) := by
              refine .tup ?_ fun y hy => ?_
              · rw [List.length_append, List.length_append, List.length_take, List.length_drop]; simp; omega
              · rcases List.mem_append.mp hy with hy | hy
                · rcases List.mem_append.mp hy with hy | hy
                  · exact (hd y (List.mem_of_mem_take hy)).mono (Nat.le_succ _) (Nat.le_refl _)
                  · rw [List.mem_singleton.mp hy]; exact g
                · exact (hd y (List.mem_of_mem_drop hy)).mono (Nat.le_succ _) (Nat.le_refl _)
            exact k_trunc_dk gd.pd (q _ _ _ (by omega) gd)
          · rw [if_neg hv]
            exact t4 _ _ (Nat.le_refl _)
        · rw [if_neg hd0]
          exact t4 _ _ (Nat.le_succ _)
      · rw [if_neg hl]
        exact t4 _ _ (Nat.le_succ _)
    | _ => first | (walk_at "ev"; exact t4 _ _ (Nat.le_succ _)) | (have := h.pd; unfold isPd at this; cases this)
/-! ### the tree -/
def nodeP (a b : Int) (x : Int × Int) : Prop := (x.1 = 0 ∧ 0 ≤ x.2 ∧ x.2 < a) ∨ (x.1 = 1 ∧ 0 ≤ x.2 ∧ x.2 < b)
structure Tr (a b : Int) (ps : List (Int × Int)) : Prop where
  a0 : 0 ≤ a
  b0 : 0 ≤ b
  rng : ∀ p ∈ ps, (0 ≤ p.1 ∧ p.1 < a) ∧ 0 ≤ p.2 ∧ p.2 < b
  cnt : a + b = ps.length + 1
  con : ∀ C : Int × Int → Prop, Clo ps C → ∀ x y, nodeP a b x → nodeP a b y → C x → C y
theorem Clo.ins {ps : List (Int × Int)} {p : Int × Int} {i : Nat} {C : Int × Int → Prop} (h : Clo (ps.take i ++ [p] ++ ps.drop i) C) : Clo ps C ∧ (C (0, p.1) ↔ C (1, p.2)) := by
  refine ⟨fun q hq => h q ?_, h p (by simp)⟩
  rw [← List.take_append_drop i ps] at hq
  rcases List.mem_append.mp hq with hq | hq
  · exact List.mem_append_left _ (List.mem_append_left _ hq)
  · exact List.mem_append_right _ hq
theorem mem_ins {ps : List (Int × Int)} {p q : Int × Int} {i : Nat} (h : q ∈ ps.take i ++ [p] ++ ps.drop i) : q ∈ ps ∨ q = p := by
  rcases List.mem_append.mp h with h | h
  · rcases List.mem_append.mp h with h | h
    · exact .inl (List.mem_of_mem_take h)
    · exact .inr (List.mem_singleton.mp h)
  · exact .inl (List.mem_of_mem_drop h)
theorem len_ins {α : Type} {ps : List α} {p : α} {i : Nat} : (ps.take i ++ [p] ++ ps.drop i).length = ps.length + 1 := by
  rw [List.length_append, List.length_append, List.length_take, List.length_drop]
  simp; omega
theorem Tr.hi {a b o : Int} {ps : List (Int × Int)} (t : Tr a b ps) (h0 : 0 ≤ o) (h1 : o < b) (i : Nat) : Tr (a + 1) b (ps.take i ++ [(a, o)] ++ ps.drop i) where
  a0 := by have := t.a0; omega
  b0 := t.b0
  rng := fun q hq => by
    rcases mem_ins hq with hq | rfl
    · have := t.rng q hq
      exact ⟨⟨this.1.1, by omega⟩, this.2⟩
    · exact ⟨⟨t.a0, by show a < a + 1; omega⟩, h0, h1⟩
  cnt := by rw [len_ins]; have := t.cnt; omega
  con := fun C hC x y hx hy c => by
    obtain ⟨c1, c2⟩ := hC.ins
    have old : ∀ z, nodeP (a + 1) b z → nodeP a b z ∨ z = (0, a) := fun z hz => by
      rcases hz with ⟨h1, h2, h3⟩ | h
      · by_cases e : z.2 = a
        · exact .inr (Prod.ext h1 e)
        · exact .inl (.inl ⟨h1, h2, by omega⟩)
      · exact .inl (.inr h)
    have ho : nodeP a b (1, o) := .inr ⟨rfl, h0, h1⟩
    have all : ∀ z, nodeP (a + 1) b z → C z → C (1, o) := fun z hz c => by
      rcases old z hz with hz | rfl
      · exact t.con C c1 z _ hz ho c
      · exact c2.mp c
    have co := all x hx c
    rcases old y hy with hy | rfl
    · exact t.con C c1 _ y ho hy co
    · exact c2.mpr co
theorem Tr.lo {a b o : Int} {ps : List (Int × Int)} (t : Tr a b ps) (h0 : 0 ≤ o) (h1 : o < a) (i : Nat) : Tr a (b + 1) (ps.take i ++ [(o, b)] ++ ps.drop i) where
  a0 := t.a0
  b0 := by have := t.b0; omega
  rng := fun q hq => by
    rcases mem_ins hq with hq | rfl
    · have := t.rng q hq
      exact ⟨this.1, this.2.1, by omega⟩
    · exact ⟨⟨h0, h1⟩, t.b0, by show b < b + 1; omega⟩
  cnt := by rw [len_ins]; have := t.cnt; omega
  con := fun C hC x y hx hy c => by
    obtain ⟨c1, c2⟩ := hC.ins
    have old : ∀ z, nodeP a (b + 1) z → nodeP a b z ∨ z = (1, b) := fun z hz => by
      rcases hz with h | ⟨h1, h2, h3⟩
      · exact .inl (.inl h)
      · by_cases e : z.2 = b
        · exact .inr (Prod.ext h1 e)
        · exact .inl (.inr ⟨h1, h2, by omega⟩)
    have ho : nodeP a b (0, o) := .inl ⟨rfl, h0, h1⟩
    have all : ∀ z, nodeP a (b + 1) z → C z → C (0, o) := fun z hz c => by
      rcases old z hz with hz | rfl
      · exact t.con C c1 z _ hz ho c
      · exact c2.mpr c
    have co := all x hx c
    rcases old y hy with hy | rfl
    · exact t.con C c1 _ y ho hy co
    · exact c2.mp co
theorem marks_node {a b : Int} {x : Int × Int} : x ∈ marks a b ↔ nodeP a b x := by
  constructor
  · intro h
    unfold marks at h
    rcases List.mem_append.mp h with h | h
    · obtain ⟨i, hi, rfl⟩ := List.mem_map.mp h
      have := List.mem_range.mp hi
      exact .inl ⟨rfl, by show (0 : Int) ≤ (i : Int); omega, by show (i : Int) < a; omega⟩
    · obtain ⟨i, hi, rfl⟩ := List.mem_map.mp h
      have := List.mem_range.mp hi
      exact .inr ⟨rfl, by show (0 : Int) ≤ (i : Int); omega, by show (i : Int) < b; omega⟩
  · rintro (⟨h1, h2, h3⟩ | ⟨h1, h2, h3⟩)
    · have := marks_hi (b := b) h2 h3
      rw [← h1] at this; exact this
    · have := marks_lo (a := a) h2 h3
      rw [← h1] at this; exact this
theorem marks_nd (a b : Int) : (marks a b).Nodup := by
  unfold marks
  refine List.nodup_append.mpr ⟨?_, ?_, fun x hx y hy e => ?_⟩
  · refine List.Pairwise.map _ (fun i j h e => h ?_) List.nodup_range
    have := congrArg Prod.snd e
    simp only at this
    omega
  · refine List.Pairwise.map _ (fun i j h e => h ?_) List.nodup_range
    have := congrArg Prod.snd e
    simp only at this
    omega
  · subst e
    obtain ⟨i, _, rfl⟩ := List.mem_map.mp hx
    obtain ⟨j, _, e⟩ := List.mem_map.mp hy
    have := congrArg Prod.fst e
    simp at this
theorem Tr.nest {a b : Int} {ps : List (Int × Int)} (t : Tr a b ps) : NestP a b (.tup (ps.map n2)) := by
  have h1 : 1 ≤ a + b := by have := t.cnt; omega
  have hs : start a ∈ marks a b := by
    have := marks_first t.a0 t.b0 h1
    exact List.mem_of_mem_take (this ▸ List.mem_singleton.mpr rfl : start a ∈ (marks a b).take 1)
  refine ⟨ps, rfl, t.rng, t.cnt, marks a b, ⟨marks_nd a b, hs, fun p hp => ?_, fun C h0 hC x hx => t.con C hC _ x (marks_node.mp hs) (marks_node.mp hx) h0⟩, marks_len t.a0 t.b0⟩
  have := t.rng p hp
  exact ⟨fun _ => marks_lo this.2.1 this.2.2, fun _ => marks_hi this.1.1 this.1.2⟩
theorem tree_t9 {X : Sto} {r : Nat} {cells : List Int} {c : Nat} {a b k : Int} {ps : List (Int × Int)} {o3 o5 o6 : Option D} {N B : Env → Sto → Prop} {R : D → Env → Sto → Prop} (hX : (X = [] ∧ r = 2) ∨ (X = [.lst [.int 1, .int 0]] ∧ r = 3)) (hc : c < 2 ^ 37) (hl : ps.length ≤ 100) (t : Tr a b ps)
    (hk : (k = 0 ∧ 0 < b) ∨ (k = 1 ∧ 0 < a))
    (q : ∀ cells' a' b' ps' o3 o4 o5 o6, Tr a' b' ps' → ps'.length = ps.length + 1 → N [some (.ref 1), some (.ref r), some (.ref (r + 1)), o3, o4, o5, o6] (dk cells' (c + 2) (X ++ [.lst [.int a', .int b'], .lst (ps'.map n2)]))) :
    okS b__law_tree_t9 [some (.ref 1), some (.ref r), some (.ref (r + 1)), o3, some (.int k), o5, o6] (dk cells c (X ++ [.lst [.int a, .int b], .lst (ps.map n2)])) (kT2 N B R) := by
  have a0 := t.a0
  have b0 := t.b0
  have cnt := t.cnt
  have p1 : (2 : Nat) ^ 37 + 2 < 2 ^ 40 := by decide
  have hz : 1000 < sizeLine := by decide
  have l2 : (2 : Int) = (([.int a, .int b] : List D).length : Int) := rfl
  have ins : ∀ (p : Int × Int) (i : Nat), (ps.map n2).take i ++ [n2 p] ++ (ps.map n2).drop i = (ps.take i ++ [p] ++ ps.drop i).map n2 := fun p i => by
    rw [List.map_append, List.map_append, List.map_take, List.map_drop]; rfl
  unfold b__law_tree_t9
  rcases hX with ⟨rfl, rfl⟩ | ⟨rfl, rfl⟩
  · rcases hk with ⟨rfl, hk⟩ | ⟨rfl, hk⟩
    · walk_at "ev"
      refine f_draw hk (by omega) (by omega) fun o cells1 _ u0 u1 => ?_
      walk_at "ev"
      rw [setA_l (n := 2) (a := [.int a, .int b]) (k := 0) rfl (ixN_pos (by decide) (by show (0 : Int) < 2; decide))]
      walk_at "ev"
      refine f_draw (by omega) (by rw [List.length_map]; omega) (by omega) fun i cells2 _ i0 i1 => ?_
      walk_at "ev"
      rw [List.length_map] at i1
      rw [mIns_l (n := 2 + 1) (a := ps.map n2) rfl (by rw [List.length_map]; omega) i0 (by omega)]
      walk_at "ev"
      have := q cells2 _ _ _ o3 (some (.int 0)) (some (.int o)) (some (.int a)) (t.hi u0 u1 i.toNat) len_ins
      rw [← ins] at this
      exact this
    · walk_at "ev"
      refine f_draw hk (by omega) (by omega) fun o cells1 _ u0 u1 => ?_
      walk_at "ev"
      rw [setA_l (n := 2) (a := [.int a, .int b]) (k := 1) rfl (ixN_pos (by decide) (by show (1 : Int) < 2; decide))]
      walk_at "ev"
      refine f_draw (by omega) (by rw [List.length_map]; omega) (by omega) fun i cells2 _ i0 i1 => ?_
      walk_at "ev"
      rw [List.length_map] at i1
      rw [mIns_l (n := 2 + 1) (a := ps.map n2) rfl (by rw [List.length_map]; omega) i0 (by omega)]
      walk_at "ev"
      have := q cells2 _ _ _ o3 (some (.int 1)) (some (.int o)) (some (.int b)) (t.lo u0 u1 i.toNat) len_ins
      rw [← ins] at this
      exact this
  · rcases hk with ⟨rfl, hk⟩ | ⟨rfl, hk⟩
    · walk_at "ev"
      refine f_draw hk (by omega) (by omega) fun o cells1 _ u0 u1 => ?_
      walk_at "ev"
      rw [setA_l (n := 3) (a := [.int a, .int b]) (k := 0) rfl (ixN_pos (by decide) (by show (0 : Int) < 2; decide))]
      walk_at "ev"
      refine f_draw (by omega) (by rw [List.length_map]; omega) (by omega) fun i cells2 _ i0 i1 => ?_
      walk_at "ev"
      rw [List.length_map] at i1
      rw [mIns_l (n := 3 + 1) (a := ps.map n2) rfl (by rw [List.length_map]; omega) i0 (by omega)]
      walk_at "ev"
      have := q cells2 _ _ _ o3 (some (.int 0)) (some (.int o)) (some (.int a)) (t.hi u0 u1 i.toNat) len_ins
      rw [← ins] at this
      exact this
    · walk_at "ev"
      refine f_draw hk (by omega) (by omega) fun o cells1 _ u0 u1 => ?_
      walk_at "ev"
      rw [setA_l (n := 3) (a := [.int a, .int b]) (k := 1) rfl (ixN_pos (by decide) (by show (1 : Int) < 2; decide))]
      walk_at "ev"
      refine f_draw (by omega) (by rw [List.length_map]; omega) (by omega) fun i cells2 _ i0 i1 => ?_
      walk_at "ev"
      rw [List.length_map] at i1
      rw [mIns_l (n := 3 + 1) (a := ps.map n2) rfl (by rw [List.length_map]; omega) i0 (by omega)]
      walk_at "ev"
      have := q cells2 _ _ _ o3 (some (.int 1)) (some (.int o)) (some (.int b)) (t.lo u0 u1 i.toNat) len_ins
      rw [← ins] at this
      exact this
theorem tree_turn {X : Sto} {r : Nat} {cells : List Int} {c : Nat} {a b : Int} {ps : List (Int × Int)} {o3 o4 o5 o6 : Option D} {N B : Env → Sto → Prop} {R : D → Env → Sto → Prop} (hX : (X = [] ∧ r = 2) ∨ (X = [.lst [.int 1, .int 0]] ∧ r = 3)) (hc : c < 2 ^ 36) (hl : ps.length ≤ 100) (t : Tr a b ps)
    (q : ∀ cells' a' b' ps' o3 o4 o5 o6, Tr a' b' ps' → ps'.length = ps.length + 1 → N [some (.ref 1), some (.ref r), some (.ref (r + 1)), o3, o4, o5, o6] (dk cells' (c + 3) (X ++ [.lst [.int a', .int b'], .lst (ps'.map n2)]))) :
    okS b__law_tree_5 [some (.ref 1), some (.ref r), some (.ref (r + 1)), o3, o4, o5, o6] (dk cells c (X ++ [.lst [.int a, .int b], .lst (ps.map n2)])) (kT2 N B R) := by
  unfold b__law_tree_5
  walk_at "ev"
  have p1 : (2 : Nat) ^ 36 + 1 < 2 ^ 37 := by decide
  have p2 : (2 : Nat) ^ 36 < 2 ^ 40 := by decide
  refine f_draw (by decide) (by decide) (by omega) fun v cells1 _ v0 v1 => ?_
  have a0 := t.a0
  have b0 := t.b0
  have cnt := t.cnt
  have hv : v = 0 ∨ v = 1 := by omega
  have t9 : ∀ k : Int, ((k = 0 ∧ 0 < b) ∨ (k = 1 ∧ 0 < a)) → okS b__law_tree_t9 [some (.ref 1), some (.ref r), some (.ref (r + 1)), o3, some (.int k), o5, o6] (dk cells1 (c + 1) (X ++ [.lst [.int a, .int b], .lst (ps.map n2)])) (kT2 N B R) := fun k hk =>
    tree_t9 hX (by omega) hl t hk fun cells' a' b' ps' o3 o4 o5 o6 t' l' => q cells' a' b' ps' o3 o4 o5 o6 t' l'
  rcases hX with ⟨rfl, rfl⟩ | ⟨rfl, rfl⟩
  · rcases hv with rfl | rfl
    · walk_at "ev"
      by_cases hb : b = 0
      · rw [if_pos hb]; exact t9 1 (.inr ⟨rfl, by omega⟩)
      · rw [if_neg hb]; exact t9 0 (.inl ⟨rfl, by omega⟩)
    · walk_at "ev"
      by_cases ha : a = 0
      · rw [if_pos ha]; exact t9 0 (.inl ⟨rfl, by omega⟩)
      · rw [if_neg ha]; exact t9 1 (.inr ⟨rfl, by omega⟩)
  · rcases hv with rfl | rfl
    · walk_at "ev"
      by_cases hb : b = 0
      · rw [if_pos hb]; exact t9 1 (.inr ⟨rfl, by omega⟩)
      · rw [if_neg hb]; exact t9 0 (.inl ⟨rfl, by omega⟩)
    · walk_at "ev"
      by_cases ha : a = 0
      · rw [if_pos ha]; exact t9 0 (.inl ⟨rfl, by omega⟩)
      · rw [if_neg ha]; exact t9 1 (.inr ⟨rfl, by omega⟩)
theorem tree_loop {X : Sto} {r : Nat} {a b : Int} {cells : List Int} {c : Nat} {v : Int} {o3 o4 o5 o6 : Option D} {Q : Fl → Env → Sto → Prop} (hX : (X = [] ∧ r = 2) ∨ (X = [.lst [.int 1, .int 0]] ∧ r = 3)) (hc : c < 2 ^ 35) (t : Tr a b []) (v1 : v < 7)
    (q : ∀ cells' c' a' b' ps' o3 o4 o5 o6, c' ≤ c + 18 → Tr a' b' ps' → ps'.length ≤ 7 → Q .nx [some (.ref 1), some (.ref r), some (.ref (r + 1)), o3, o4, o5, o6] (dk cells' c' (X ++ [.lst [.int a', .int b'], .lst (ps'.map n2)]))) :
    okFor (gNm 3) b__law_tree_5 (rngD 0 v.toNat) [some (.ref 1), some (.ref r), some (.ref (r + 1)), o3, o4, o5, o6] (dk cells c (X ++ [.lst [.int a, .int b], .lst []])) Q := by
  have p1 : (2 : Nat) ^ 35 + 100 < 2 ^ 36 := by decide
  have hlen : (rngD 0 v.toNat).length ≤ 6 := by rw [rngD_length]; omega
  refine for_inv (fun done rest env st => ∃ cells' a' b' ps' o3 o4 o5 o6, env = [some (.ref 1), some (.ref r), some (.ref (r + 1)), o3, o4, o5, o6] ∧ st = dk cells' (c + 3 * done.length) (X ++ [.lst [.int a', .int b'], .lst (ps'.map n2)]) ∧ Tr a' b' ps' ∧ ps'.length = done.length) ⟨cells, a, b, [], o3, o4, o5, o6, rfl, rfl, t, rfl⟩ ?_ ?_
  · rintro done d rest env st e ⟨cells1, a1, b1, ps1, p3, p4, p5, p6, rfl, rfl, t1, l1⟩
    have hd : done.length < 6 := by
      have := congrArg List.length e
      rw [List.length_append, List.length_cons] at this
      omega
    walk_at "ev"
    refine tree_turn hX (by omega) (by omega) t1 fun cells' a' b' ps' o3 o4 o5 o6 t' l' => ?_
    refine ⟨cells', a', b', ps', o3, o4, o5, o6, rfl, ?_, t', by rw [List.length_append]; simp; omega⟩
    rw [List.length_append, List.length_singleton]
    rfl
  · rintro env st ⟨cells1, a1, b1, ps1, p3, p4, p5, p6, rfl, rfl, t1, l1⟩
    exact q cells1 _ a1 b1 ps1 p3 p4 p5 p6 (by omega) t1 (by omega)
theorem f_tree {cells : List Int} {c : Nat} {Q : D → Sto → Prop} (hc : c < 2 ^ 34) (q : ∀ cells' c' a b ps, c' ≤ c + 20 → Tr a b ps → ps.length ≤ 7 → Q (.lst [.int a, .int b, .tup (ps.map n2)]) (dk cells' c' [])) : okF F__law_tree [.ref 1] (dk cells c []) Q := by
  unfold F__law_tree
  refine okF_trunc (okF_body ?_)
  unfold b__law_tree
  show okS _ [some (.ref 1), none, none, none, none, none, none] _ (kBody (kTrunc 2 Q))
  have p1 : (2 : Nat) ^ 34 + 100 < 2 ^ 35 := by decide
  have p2 : (2 : Nat) ^ 35 < 2 ^ 40 := by decide
  walk_at "ev"
  refine f_draw (by decide) (by decide) (by omega) fun v cells1 _ v0 v1 => ?_
  walk_at "ev"
  have fin : ∀ {cells' c' a b ps} {st : Sto}, st.take 2 = dk cells' c' [] → c' ≤ c + 20 → Tr a b ps → ps.length ≤ 7 → kTrunc 2 Q (.lst [.int a, .int b, .tup (ps.map n2)]) st := fun {cells' c' a b ps st} e h t l => by
    have hp : isPd (.lst [.int a, .int b, .tup (ps.map n2)]) = true := by
      unfold isPd isPds isPds isPds isPds
      simp only [isPd, pds_n2, Bool.and_self]
    unfold kTrunc
    rw [e, val_pd hp]
    refine ⟨?_, q cells' c' a b ps h t l⟩
    exact soR_dk (cells := cells') (c := c')
  have con : ∀ a b : Int, (a = 0 ∧ b = 1) ∨ (a = 1 ∧ b = 0) → Tr a b [] := fun a b h => by
    refine ⟨by omega, by omega, fun p hp => (by cases hp), by simp; omega, fun C _ x y hx hy cx => ?_⟩
    have : x = y := by
      rcases hx with ⟨h1, h2, h3⟩ | ⟨h1, h2, h3⟩ <;> rcases hy with ⟨h4, h5, h6⟩ | ⟨h4, h5, h6⟩ <;> first | exact Prod.ext (by omega) (by omega) | (exfalso; omega)
    rw [← this]; exact cx
  by_cases hv : v = 0
  · rw [if_pos hv]
    refine f_draw (cells := cells1) (c := c + 1) (rest := [.lst [.int 1, .int 0], .lst [.int 0, .int 1], .lst []]) (by decide) (by decide) (by omega) fun w cells2 _ w0 w1 => ?_
    walk_at "ev"
    rw [if_pos ⟨by omega, by omega⟩]
    refine tree_loop (X := [.lst [.int 1, .int 0]]) (r := 3) (cells := cells2) (c := c + 1 + 1) (.inr ⟨rfl, rfl⟩) (by omega) (con 0 1 (.inl ⟨rfl, rfl⟩)) w1 fun cells3 c3 a b ps o3 o4 o5 o6 hc3 t l => ?_
    walk_at "ev"
    exact fin rfl (by omega) t l
  · rw [if_neg hv]
    refine f_draw (cells := cells1) (c := c + 1) (rest := [.lst [.int 1, .int 0], .lst []]) (by decide) (by decide) (by omega) fun w cells2 _ w0 w1 => ?_
    walk_at "ev"
    rw [if_pos ⟨by omega, by omega⟩]
    refine tree_loop (X := []) (r := 2) (cells := cells2) (c := c + 1 + 1) (.inl ⟨rfl, rfl⟩) (by omega) (con 1 0 (.inr ⟨rfl, rfl⟩)) w1 fun cells3 c3 a b ps o3 o4 o5 o6 hc3 t l => ?_
    walk_at "ev"
    exact fin rfl (by omega) t l
/-! ### the law -/
theorem Gd.hz {B n : Nat} {d : D} (h : Gd B n d) (hB : B ≤ 1000) (hn : n ≤ 60) : ∀ ds, d = .tup ds → ds.length ≤ 1000 ∧ ∀ x ∈ ds, Pv.shp x = true := fun ds e => by
  subst e
  cases h with
  | tup hl hd => exact ⟨by omega, fun x hx => (hd x hx).shp (by omega)⟩
theorem gd_pairs {n : Nat} {ps : List (Int × Int)} (h : ps.length ≤ 20) : Gd 20 (n + 2) (.tup (ps.map n2)) := .tup (by rw [List.length_map]; exact h) fun d hd => by
  obtain ⟨p, _, rfl⟩ := List.mem_map.mp hd
  exact gd_n2 (by decide) p
theorem law_turn {cells : List Int} {c : Nat} {a b : Int} {ps : List (Int × Int)} {o0 o2 o6 o7 o8 o9 o10 o11 : Option D} {N B : Env → Sto → Prop} {R : D → Env → Sto → Prop} (hc : c < 2 ^ 32) (t : Tr a b ps) (hl : ps.length ≤ 7)
    (q : ∀ cells' c' o2 o6 o7 o8 o9 o10 o11, c' ≤ c + 100 → N [o0, some (.ref 1), o2, some (.int a), some (.int b), some (.tup (ps.map n2)), o6, o7, o8, o9, o10, o11] (dk cells' c' [])) :
    okS b_law_5 [o0, some (.ref 1), o2, some (.int a), some (.int b), some (.tup (ps.map n2)), o6, o7, o8, o9, o10, o11] (dk cells c []) (kT2 N B R) := by
  have p1 : (2 : Nat) ^ 32 + 200 < 2 ^ 36 := by decide
  have p2 : (2 : Nat) ^ 36 < 2 ^ 40 := by decide
  have hz : 30000 ≤ sizeLine := by decide
  have a0 := t.a0
  have b0 := t.b0
  unfold b_law_5
  walk_at "ev"
  refine f_draw (by split <;> omega) (by rw [List.length_map]; split <;> omega) (by omega) fun at_ cells1 _ u0 u1 => ?_
  walk_at "ev"
  have lp : (ps.map n2).length ≤ 7 := by rw [List.length_map]; exact hl
  have cl := fun lo hi => cut_len (ps.map n2) lo hi
  have l1 := cl none (some at_)
  have l2 := cl (some (at_ + 1)) none
  have l3 := cl none (some 1)
  rw [if_pos (by omega), if_pos (by omega), if_pos (by omega), if_pos (by rw [List.length_append]; simp only [List.length_cons, List.length_nil]; omega)]
  have gp : ∀ d ∈ ps.map n2, Gd 20 9 d := fun d hd => by
    obtain ⟨p, _, rfl⟩ := List.mem_map.mp hd
    exact gd_n2 (by decide) p
  have gc : ∀ lo hi, ∀ d ∈ cutD (ps.map n2) lo hi, Gd 20 9 d := fun lo hi d hd => gp d (cut_mem hd)
  have g4 : ∀ d ∈ [D.tup (cutD (ps.map n2) none (some at_) ++ cutD (ps.map n2) (some (at_ + 1)) none), D.tup (ps.map n2 ++ cutD (ps.map n2) none (some 1)), D.tup (cutD (ps.map n2) none (some at_) ++ [D.tup [D.int 0, D.int 0]] ++ cutD (ps.map n2) (some (at_ + 1)) none), D.tup (ps.map n2).reverse], Gd 20 10 d := by
    intro d hd
    simp only [List.mem_cons, List.not_mem_nil, or_false] at hd
    rcases hd with rfl | rfl | rfl | rfl
    · refine .tup (by rw [List.length_append]; omega) fun d hd => ?_
      rcases List.mem_append.mp hd with hd | hd
      · exact gc _ _ d hd
      · exact gc _ _ d hd
    · refine .tup (by rw [List.length_append]; omega) fun d hd => ?_
      rcases List.mem_append.mp hd with hd | hd
      · exact gp d hd
      · exact gc _ _ d hd
    · refine .tup (by rw [List.length_append, List.length_append]; simp only [List.length_cons, List.length_nil]; omega) fun d hd => ?_
      rcases List.mem_append.mp hd with hd | hd
      · rcases List.mem_append.mp hd with hd | hd
        · exact gc _ _ d hd
        · rw [List.mem_singleton.mp hd]; exact gd_n2 (by decide) (0, 0)
      · exact gc _ _ d hd
    · exact .tup (by rw [List.length_reverse]; omega) fun d hd => gp d (List.mem_reverse.mp hd)
  have gl : ([D.tup (cutD (ps.map n2) none (some at_) ++ cutD (ps.map n2) (some (at_ + 1)) none), D.tup (ps.map n2 ++ cutD (ps.map n2) none (some 1)), D.tup (cutD (ps.map n2) none (some at_) ++ [D.tup [D.int 0, D.int 0]] ++ cutD (ps.map n2) (some (at_ + 1)) none), D.tup (ps.map n2).reverse] : List D).length = 4 := rfl
  generalize ([D.tup (cutD (ps.map n2) none (some at_) ++ cutD (ps.map n2) (some (at_ + 1)) none), D.tup (ps.map n2 ++ cutD (ps.map n2) none (some 1)), D.tup (cutD (ps.map n2) none (some at_) ++ [D.tup [D.int 0, D.int 0]] ++ cutD (ps.map n2) (some (at_ + 1)) none), D.tup (ps.map n2).reverse] : List D) = L4 at g4 gl
  refine f_bent 3 (B := 20) (n := 10) (by decide) (by omega) (by decide) (by decide) (by decide) ((gd_pairs (n := 8) (by omega))) fun d1 cells2 c2 hc2 g1 => ?_
  walk_at "ev"
  refine f_draw (by decide) (by decide) (by omega) fun v2 cells3 _ u2 u3 => ?_
  walk_at "ev"
  refine okO_at u2 (by rw [gl]; exact u3) fun d2 hd2 => ?_
  have g2 := g4 d2 hd2
  walk_at "ev"
  refine f_draw (by decide) (by decide) (by omega) fun v3 cells4 _ u4 u5 => ?_
  walk_at "ev"
  refine okO_at u4 (by simpa using u5) fun d hd => ?_
  have g : Gd 21 10 d := by
    simp only [List.mem_cons, List.not_mem_nil, or_false] at hd
    rcases hd with rfl | rfl
    · exact g1
    · exact g2.mono (by decide) (Nat.le_refl _)
  walk_at "ev"
  refine f_draw (by decide) (by decide) (by omega) fun v4 cells5 _ u6 u7 => ?_
  walk_at "ev"
  refine okO_at u6 (by simpa using u7) fun e1 he1 => ?_
  have k1 : ∃ m : Int, 0 ≤ m ∧ e1 = .int m := by
    simp only [List.mem_cons, List.not_mem_nil, or_false] at he1
    rcases he1 with rfl | rfl | rfl | rfl
    · exact ⟨0, by decide, rfl⟩
    · exact ⟨0, by decide, rfl⟩
    · exact ⟨1, by decide, rfl⟩
    · exact ⟨0, by decide, rfl⟩
  obtain ⟨m1, m10, rfl⟩ := k1
  walk_at "ev"
  refine f_draw (by decide) (by decide) (by omega) fun v5 cells6 _ u8 u9 => ?_
  walk_at "ev"
  refine okO_at u8 (by simpa using u9) fun e2 he2 => ?_
  have k2 : ∃ m : Int, 0 ≤ m ∧ e2 = .int m := by
    simp only [List.mem_cons, List.not_mem_nil, or_false] at he2
    rcases he2 with rfl | rfl | rfl | rfl
    · exact ⟨0, by decide, rfl⟩
    · exact ⟨0, by decide, rfl⟩
    · exact ⟨1, by decide, rfl⟩
    · exact ⟨0, by decide, rfl⟩
  obtain ⟨m2', m20, rfl⟩ := k2
  walk_at "ev"
  have hz1 := g.hz (by decide) (by decide)
  rw [okF_eq (f_nest g.pd fun ds e => by have := (hz1 ds e).1; omega)]
  walk_at "ev"
  rw [okF_eq (f_is_nest g.pd hz1 (by omega) (by omega))]
  walk_at "ev"
  rw [if_neg (by simp)]
  exact q cells6 _ _ _ _ _ _ _ _ (by omega)
open Classical in
theorem pure_law (ns : List Int) (h : ns.length ≤ 63) : ∃ st', F_law [.scr (ns.map D.int)] [] = some (.bl true, st') := by
  suffices okF F_law [.scr (ns.map D.int)] [] fun d _ => d = .bl true by
    unfold okF at this
    cases e : F_law [.scr (ns.map D.int)] [] with
    | none => rw [e] at this; exact this.elim
    | some p =>
      rw [e] at this
      obtain ⟨d, s⟩ := p
      exact ⟨s, by rw [show d = .bl true from this]⟩
  unfold F_law
  refine okF_body ?_
  unfold b_law
  show okS _ [some (.scr (ns.map D.int)), none, none, none, none, none, none, none, none, none, none, none] [] _
  walk_at "ev"
  refine f_deck h fun cells => ?_
  walk_at "ev"
  refine f_tree (by decide) fun cells1 c1 a b ps hc1 t hl => ?_
  walk_at "ev"
  rw [okF_eq (f_nest (by unfold isPd; exact pds_n2 ps) (fun ds e => by injection e with e; subst e; rw [List.length_map]; omega)), decide_eq_true t.nest]
  walk_at "ev"
  rw [if_neg (by simp), if_pos ⟨by decide, by decide⟩]
  have p1 : (20 : Nat) + 1000 < 2 ^ 32 := by decide
  refine for_inv (fun done rest env st => ∃ cells' c' o2 o6 o7 o8 o9 o10 o11, env = [some (.scr (ns.map D.int)), some (.ref 1), o2, some (.int a), some (.int b), some (.tup (ps.map n2)), o6, o7, o8, o9, o10, o11] ∧ st = dk cells' c' [] ∧ c' ≤ c1 + 100 * done.length) ⟨cells1, c1, none, none, none, none, none, none, none, rfl, rfl, Nat.le_refl _⟩ ?_ ?_
  · rintro done d rest env st e ⟨cells', c', o2, o6, o7, o8, o9, o10, o11, rfl, rfl, hc'⟩
    have hd : done.length < 4 := by
      have := congrArg List.length e
      rw [rngD_length, List.length_append, List.length_cons] at this
      have z : (4 : Int).toNat = 4 := rfl
      omega
    walk_at "ev"
    refine law_turn (by omega) t hl fun cells2 c2 o2 o6 o7 o8 o9 o10 o11 hc2 => ?_
    exact ⟨cells2, c2, o2, o6, o7, o8, o9, o10, o11, rfl, rfl, by rw [List.length_append]; simp; omega⟩
  · rintro env st ⟨cells', c', o2, o6, o7, o8, o9, o10, o11, rfl, rfl, hc'⟩
    walk_at "ev"
end Pv
open PySem PySem.W PySem.Calls PyProof.Rows
theorem PySem.Challenge.cw_levelskins_k44_what_is_a_nest_holds : PySem.Challenge.rw_levelskins_k44_what_is_a_nest.Holds := by
  w_on; o_law
  refine HandSHeadRun.head_any (r := OpenLaw.row PySem.Challenge.rw_levelskins_k44_what_is_a_nest) (q := view (OpenLaw.row PySem.Challenge.rw_levelskins_k44_what_is_a_nest).prog [14]) (H := Pv.hk) (ob := Pv.hob) (M := 4000) (loose := Pv.loose) (d := HandSHeadRun.topDef (OpenLaw.row PySem.Challenge.rw_levelskins_k44_what_is_a_nest).prog 14) (kwd := []) Pv.hob_eq
    (by kernel_rfl) (fun s => by kernel_rfl) Pv.hrun (by kernel_rfl) (by kernel_rfl) (by kernel_rfl) (by rfl) (by first | assumption | decide +kernel) (by decide +kernel) ⟨rfl, rfl, rfl, rfl, rfl, by decide +kernel⟩ ?hw ?hc
  case hw => w_witness2
  case hc =>
    refine L2.walk_ofE (l := PySem.Challenge.rw_levelskins_k44_what_is_a_nest) (n := 63) (k := 7) (x := "_law_script") (CX := C8.CX0) rfl (by decide) (by kernel_rfl) ⟨rfl, by decide, by decide⟩ ?F (fun _ _ _ _ z => z)
    intro w mg fa h Y G hmg0
    obtain ⟨K, KX, c⟩ := Y
    have hmg : mg ("law" : PySem.Str) = some (.ref fa) := by
      have e : (HandSHeadRun.topDef (OpenLaw.row PySem.Challenge.rw_levelskins_k44_what_is_a_nest).prog 14).name = ("law" : PySem.Str) := by kernel_rfl
      rw [← e]
      exact hmg0
    obtain ⟨fd, hb, hF⟩ := Pv.facts (P := (PySem.Challenge.rw_levelskins_k44_what_is_a_nest).prog) (w := w) KX G hmg c
    exact ⟨K, fd, Pv.spF K w 1 Pv.F_law, KX, hb, fun H a ns hl hO hS => Pv.law_end hO hS (Pv.pure_law ns hl), hF⟩
