import PyProof.Rows.All
import HandS.ForMost
import HandS.Deep
import HandS.Style
import HandS.Conv
import HandS.TupAny
import HandS.TupLe
import HandS.IsInst
import HandS.Flow
import HandS.Defaults
import HandS.SortInts
import KE.SortData
import KE.KDictKeyed
import KE.KeyNested
import KE.DataCmp
import KE.GoesEnum
import PyProof.Draws
import KE.KDictCopyH
import KE.KDictSum
import HandS.ExcOwn
import HandS.ExcValue
import HandS.Codes
import HandS.TupLen
import Wide.All
import OpenK.AllK
import Wide.FinOn
import KE.KStateDown
import HandS.Base
import HandS.Call
import HandS.Ends
import HandS.More
import HandS.Words
import HandS.WordsExc
import HandS.Head0
import HandS.Head1
import HandS.Head2
import HandS.HeadEnd
import HandS.HeadHook1
import HandS.HeadHook2
import PySem.Challenge.RW_rateflows_k46_whole_mean_times
import HandS.TupSets
set_option Elab.async false
set_option linter.all false
set_option maxRecDepth 100000
set_option maxHeartbeats 1000000
/-! Data layer 1: data in the known heap, growth, slots, states. -/
namespace Dl
open PySem PySem.Spec PyProof.Rows L2

/-! ### data that stands in a known heap and is never changed -/
mutual
inductive Dr (F : Hp) : V → PyData → Prop
  | non : Dr F .non .none
  | bl (b : Bool) : Dr F (.bl b) (.bool b)
  | int (i : Int) : Dr F (.int i) (.int i)
  | lst {a : Addr} {xs : List V} {ds : List PyData} : F a = some (.lst xs) → DrA F xs ds → Dr F (.ref a) (.list ds)
  | tup {a : Addr} {xs : List V} {ds : List PyData} : F a = some (.tup xs) → DrA F xs ds → Dr F (.ref a) (.tuple ds)
  | dct {a : Addr} {ws : List (Key × V)} {kvs : List (PyData × PyData)} : F a = some (.dK ws) → DrK F ws kvs → Dr F (.ref a) (.dict kvs)
/-- a dict whose keys are ints -/
inductive DrK (F : Hp) : List (Key × V) → List (PyData × PyData) → Prop
  | nil : DrK F [] []
  | cons {k : Int} {v : V} {d : PyData} {ws : List (Key × V)} {kvs : List (PyData × PyData)} : Dr F v d → DrK F ws kvs → DrK F ((.inl k, v) :: ws) ((.int k, d) :: kvs)
inductive DrA (F : Hp) : List V → List PyData → Prop
  | nil : DrA F [] []
  | cons {v : V} {vs : List V} {d : PyData} {ds : List PyData} : Dr F v d → DrA F vs ds → DrA F (v :: vs) (d :: ds)
end

mutual
theorem Dr.mono {F F' : Hp} (e : Same F F') : ∀ {v : V} {d : PyData}, Dr F v d → Dr F' v d
  | _, _, .non => .non
  | _, _, .bl b => .bl b
  | _, _, .int i => .int i
  | _, _, .lst h a => .lst (e _ _ h) (DrA.mono e a)
  | _, _, .tup h a => .tup (e _ _ h) (DrA.mono e a)
  | _, _, .dct h a => .dct (e _ _ h) (DrK.mono e a)
theorem DrK.mono {F F' : Hp} (e : Same F F') : ∀ {ws : List (Key × V)} {kvs : List (PyData × PyData)}, DrK F ws kvs → DrK F' ws kvs
  | _, _, .nil => .nil
  | _, _, .cons h t => .cons (Dr.mono e h) (DrK.mono e t)
theorem DrA.mono {F F' : Hp} (e : Same F F') : ∀ {vs : List V} {ds : List PyData}, DrA F vs ds → DrA F' vs ds
  | _, _, .nil => .nil
  | _, _, .cons h t => .cons (Dr.mono e h) (DrA.mono e t)
end

/-- data without dicts and texts, of a depth -/
def Pl : Nat → PyData → Bool
  | _, .none => true
  | _, .bool _ => true
  | _, .int _ => true
  | n + 1, .tuple ds => ds.all (Pl n)
  | n + 1, .list ds => ds.all (Pl n)
  | _, _ => false
theorem Dr.dp {K : PySem.W.Frag} {F : Hp} : ∀ (n : Nat) {v : V} {d : PyData}, Pl n d = true → Dr F v d → Dp K F v d := by
  intro n
  induction n with
  | zero =>
    intro v d p h
    cases h with
    | non => exact .non
    | bl b => exact .bl b
    | int i => exact .int i
    | lst h a => simp [Pl] at p
    | tup h a => simp [Pl] at p
    | dct h a => simp [Pl] at p
  | succ n ih =>
    have all : ∀ {vs : List V} {ds : List PyData}, ds.all (Pl n) = true → DrA F vs ds → DpAll K F vs ds := by
      intro vs ds
      induction ds generalizing vs with
      | nil => intro _ h; cases h; exact .nil
      | cons d ds ih2 =>
        intro p h
        rw [List.all_cons, Bool.and_eq_true] at p
        cases h with
        | cons a t => exact .cons (ih p.1 a) (ih2 p.2 t)
    intro v d p h
    cases h with
    | non => exact .non
    | bl b => exact .bl b
    | int i => exact .int i
    | lst h a => exact .lst (SqL.of h) (all (by simpa [Pl] using p) a)
    | tup h a => exact .tup (SqT.of h) (all (by simpa [Pl] using p) a)
    | dct h a => simp [Pl] at p

theorem Dr.int_inv {F : Hp} {v : V} {i : Int} (h : Dr F v (.int i)) : v = .int i := by cases h; rfl
theorem Dr.bool_inv {F : Hp} {v : V} {b : Bool} (h : Dr F v (.bool b)) : v = .bl b := by cases h; rfl
theorem Dr.none_inv {F : Hp} {v : V} (h : Dr F v .none) : v = .non := by cases h; rfl
theorem Dr.tup_inv {F : Hp} {v : V} {ds : List PyData} (h : Dr F v (.tuple ds)) : ∃ a xs, v = .ref a ∧ F a = some (.tup xs) ∧ DrA F xs ds := by
  cases h with
  | tup h a => exact ⟨_, _, rfl, h, a⟩
theorem Dr.lst_inv {F : Hp} {v : V} {ds : List PyData} (h : Dr F v (.list ds)) : ∃ a xs, v = .ref a ∧ F a = some (.lst xs) ∧ DrA F xs ds := by
  cases h with
  | lst h a => exact ⟨_, _, rfl, h, a⟩
theorem DrA.len {F : Hp} : ∀ {vs : List V} {ds : List PyData}, DrA F vs ds → vs.length = ds.length
  | _, _, .nil => rfl
  | _, _, .cons _ t => congrArg (· + 1) (DrA.len t)
theorem DrA.get {F : Hp} : ∀ {vs : List V} {ds : List PyData} {i : Nat} {d : PyData}, DrA F vs ds → ds[i]? = some d → ∃ v, vs[i]? = some v ∧ Dr F v d
  | _, _, _, _, .nil, h => by simp at h
  | _, _, 0, _, .cons h _, e => by
    simp at e
    subst e
    exact ⟨_, rfl, h⟩
  | _, _, i + 1, _, .cons _ t, e => by
    obtain ⟨v, h1, h2⟩ := DrA.get (i := i) t (by simpa using e)
    exact ⟨v, by simpa using h1, h2⟩
theorem DrA.getV {F : Hp} : ∀ {vs : List V} {ds : List PyData} {i : Nat} {v : V}, DrA F vs ds → vs[i]? = some v → ∃ d, ds[i]? = some d ∧ Dr F v d
  | _, _, _, _, .nil, h => by simp at h
  | _, _, 0, _, .cons h _, e => by
    simp at e
    subst e
    exact ⟨_, rfl, h⟩
  | _, _, i + 1, _, .cons _ t, e => by
    obtain ⟨v, h1, h2⟩ := DrA.getV (i := i) t (by simpa using e)
    exact ⟨v, by simpa using h1, h2⟩
theorem DrA.append {F : Hp} : ∀ {vs ws : List V} {ds es : List PyData}, DrA F vs ds → DrA F ws es → DrA F (vs ++ ws) (ds ++ es)
  | _, _, _, _, .nil, h => h
  | _, _, _, _, .cons a t, h => .cons a (DrA.append t h)
theorem DrA.set {F : Hp} {v : V} {d : PyData} (hv : Dr F v d) : ∀ {vs : List V} {ds : List PyData} (i : Nat), DrA F vs ds → DrA F (vs.set i v) (ds.set i d)
  | _, _, _, .nil => .nil
  | _, _, 0, .cons _ t => .cons hv t
  | _, _, i + 1, .cons a t => .cons a (DrA.set hv i t)
theorem DrA.take {F : Hp} : ∀ {vs : List V} {ds : List PyData} (n : Nat), DrA F vs ds → DrA F (vs.take n) (ds.take n)
  | _, _, 0, _ => by simpa using DrA.nil
  | _, _, _ + 1, .nil => by simpa using DrA.nil
  | _, _, n + 1, .cons a t => .cons a (DrA.take n t)
theorem DrA.drop {F : Hp} : ∀ {vs : List V} {ds : List PyData} (n : Nat), DrA F vs ds → DrA F (vs.drop n) (ds.drop n)
  | _, _, 0, h => by simpa using h
  | _, _, _ + 1, .nil => by simpa using DrA.nil
  | _, _, n + 1, .cons a t => by simpa using DrA.drop n t
theorem DrA.reverse {F : Hp} : ∀ {vs : List V} {ds : List PyData}, DrA F vs ds → DrA F vs.reverse ds.reverse
  | _, _, .nil => by simpa using DrA.nil
  | _, _, .cons a t => by simpa using DrA.append (DrA.reverse t) (.cons a .nil)
theorem DrA.ints {F : Hp} : ∀ {vs : List V} {ns : List Int}, DrA F vs (ns.map PyData.int) → vs = ns.map V.int
  | _, [], h => by
    cases h
    rfl
  | _, n :: ns, h => by
    cases h with
    | cons a t => rw [a.int_inv, DrA.ints t]; rfl
theorem DrA.ofInts {F : Hp} : ∀ (ns : List Int), DrA F (ns.map V.int) (ns.map PyData.int)
  | [] => .nil
  | n :: ns => .cons (.int n) (DrA.ofInts ns)

/-! ### growth: the known part grows, the heap grows; what stood stands but for the rows at A -/
structure Gr (A : List Addr) (F H F' H' : Hp) : Prop where
  ff : Same F F'
  fh : Same F' H'
  hh : ∀ b o, b ∉ A → H b = some o → H' b = some o
  nf : ∀ b, H b ≠ none → F b = none → F' b = none
  tt : ∀ b, H b ≠ none → H' b ≠ none
theorem Gr.refl {A : List Addr} {F H : Hp} (e : Same F H) : Gr A F H F H := ⟨Same.refl F, e, fun _ _ _ h => h, fun _ _ h => h, fun _ h => h⟩
theorem Gr.trans {A : List Addr} {F H F1 H1 F2 H2 : Hp} (a : Gr A F H F1 H1) (b : Gr A F1 H1 F2 H2) : Gr A F H F2 H2 where
  ff := a.ff.trans b.ff
  fh := b.fh
  hh := fun c o hc h => b.hh c o hc (a.hh c o hc h)
  nf := fun c h n => b.nf c (a.tt c h) (a.nf c h n)
  tt := fun c h => b.tt c (a.tt c h)
theorem Gr.weak {A B : List Addr} {F H F' H' : Hp} (a : Gr A F H F' H') (h : ∀ x ∈ A, x ∈ B) : Gr B F H F' H' :=
  ⟨a.ff, a.fh, fun b o hb => a.hh b o fun z => hb (h b z), a.nf, a.tt⟩
theorem Gr.same {F H F' H' : Hp} (a : Gr [] F H F' H') : Same H H' := fun b o h => a.hh b o (by simp) h
/-- the known part with all that is new -/
def grow (F H H' : Hp) : Hp := fun b => match H b with
  | none => H' b
  | some _ => F b
theorem Gr.of {A : List Addr} {F H H' : Hp} (e : Same F H) (h : Same H H') : Gr A F H (grow F H H') H' where
  ff := fun b o hb => by unfold grow; rw [e b o hb]; exact hb
  fh := fun b o hb => by
    unfold grow at hb
    cases q : H b with
    | none => rw [q] at hb; exact hb
    | some u => rw [q] at hb; exact h b o (e b o hb)
  hh := fun b o _ hb => h b o hb
  nf := fun b hb hn => by
    unfold grow
    cases q : H b with
    | none => exact absurd q hb
    | some u => exact hn
  tt := fun b hb => by
    cases q : H b with
    | none => exact absurd q hb
    | some u => rw [h b u q]; exact fun z => nomatch z
/-- a new object, known -/
theorem Gr.new {A : List Addr} {F H : Hp} {p : Addr} {o : HO} (e : Same F H) (hp : H p = none) : Gr A F H (upd F p o) (upd H p o) where
  ff := fun b u hb => by
    have hb' := e b u hb
    rw [upd_ne (fun z => by rw [z, hp] at hb'; cases hb')]
    exact hb
  fh := fun b u hb => by
    by_cases z : b = p
    · rw [z, upd_same] at hb ⊢; exact hb
    · rw [upd_ne z] at hb ⊢; exact e b u hb
  hh := fun b u _ hb => by
    rw [upd_ne (fun z => by rw [z, hp] at hb; cases hb)]
    exact hb
  nf := fun b hb hn => by
    rw [upd_ne (fun z => hb (by rw [z]; exact hp))]
    exact hn
  tt := fun b hb => by
    rw [upd_ne (fun z => hb (by rw [z]; exact hp))]
    exact hb
/-- a new object, not known (a list of one's own) -/
theorem Gr.own {A : List Addr} {F H : Hp} {p : Addr} {o : HO} (e : Same F H) (hp : H p = none) : Gr A F H F (upd H p o) where
  ff := Same.refl F
  fh := fun b u hb => by
    have hb' := e b u hb
    rw [upd_ne (fun z => by rw [z, hp] at hb'; cases hb')]
    exact hb'
  hh := fun b u _ hb => by
    rw [upd_ne (fun z => by rw [z, hp] at hb; cases hb)]
    exact hb
  nf := fun b _ hn => hn
  tt := fun b hb => by
    rw [upd_ne (fun z => hb (by rw [z]; exact hp))]
    exact hb

/-! ### the law's draw row, slots -/
/-- at a: the list [script, read, seed, rest] -/
def RowOk (K : PySem.W.Frag) (F H : Hp) (a : Addr) : Prop := F a = none ∧ ∃ (S : Addr) (ns : List Int) (i j r : Int),
  H a = some (.lst [.ref S, .int i, .int j, .int r]) ∧ SqL K F S (ns.map V.int) ∧ 0 ≤ i ∧ 0 ≤ j ∧ j < 2147483647 ∧ 0 ≤ r

inductive Sk where
  | un
  | im (d : PyData)
  | ml (ds : List PyData)
  | dk (kvs : List (Int × PyData))
  | dt (kvs : List (List Int × PyData))
  | dn (kvs : List (PyData × PyData))
  | row
  | scr
def Sk.mut : Sk → Bool
  | .ml _ => true
  | .dk _ => true
  | .dt _ => true
  | .dn _ => true
  | _ => false
/-- a dict's values -/
inductive KvR {κ : Type} {κ' : Type} (f : κ' → κ) (F : Hp) : List (κ × V) → List (κ' × PyData) → Prop
  | nil : KvR f F [] []
  | cons {k : κ'} {v : V} {d : PyData} {ws : List (κ × V)} {kvs : List (κ' × PyData)} : Dr F v d → KvR f F ws kvs → KvR f F ((f k, v) :: ws) ((k, d) :: kvs)
theorem KvR.mono {κ κ' : Type} {f : κ' → κ} {F F' : Hp} (e : Same F F') : ∀ {ws : List (κ × V)} {kvs : List (κ' × PyData)}, KvR f F ws kvs → KvR f F' ws kvs
  | _, _, .nil => .nil
  | _, _, .cons h t => .cons (h.mono e) (KvR.mono e t)
theorem KvR.len {κ κ' : Type} {f : κ' → κ} {F : Hp} : ∀ {ws : List (κ × V)} {kvs : List (κ' × PyData)}, KvR f F ws kvs → ws.length = kvs.length
  | _, _, .nil => rfl
  | _, _, .cons _ t => congrArg (· + 1) (KvR.len t)
abbrev kI : Int → Key := Sum.inl
abbrev kT : List Int → List Key := List.map Sum.inl

/-! ### dicts with nested keys, every value True -/
mutual
def nkOf : PyData → NestedKey
  | .none => .none
  | .bool b => .num (if b then 1 else 0)
  | .int i => .num i
  | .str x => .text x
  | .tuple ds => .tup (nksOf ds)
  | .list _ => .none
  | .dict _ => .none
def nksOf : List PyData → List NestedKey
  | [] => []
  | d :: ds => nkOf d :: nksOf ds
end
/-- an entry: the key's address, what the key is, the value -/
abbrev NEnt : Type := Addr × PyData × V
def nxs : List NEnt → List Value → List (NestedKey × Addr × Value)
  | p :: L, u :: us => (nkOf p.2.1, p.1, u) :: nxs L us
  | _, _ => []
/-- the dict at a, by its entries -/
def DnO (P : Program) (w : World) (a : Addr) (L : List NEnt) : HO := .ext fun h => ∃ (us : List Value) (o : Obj) (es : Array DictEntry) (ep : Nat), Vals (L.map (·.2.2)) us ∧ h.get? a = some o ∧ o.ExactDict ∧ o.data = .dict es ep ∧
  es.toList = (nxs L us).map (entryOfKey (nestedKind P w)) ∧ (L.map fun p => nkOf p.2.1).Nodup ∧ (a == sysModules) = false
/-- its entries, as data -/
inductive NtR (F : Hp) : List NEnt → List (PyData × PyData) → Prop
  | nil : NtR F [] []
  | cons {b : Addr} {kd d : PyData} {v : V} {L : List NEnt} {kvs : List (PyData × PyData)} : Dr F (.ref b) kd → Dr F v d → NtR F L kvs → NtR F ((b, kd, v) :: L) ((kd, d) :: kvs)
theorem NtR.mono {F F' : Hp} (e : Same F F') : ∀ {L : List NEnt} {kvs : List (PyData × PyData)}, NtR F L kvs → NtR F' L kvs
  | _, _, .nil => .nil
  | _, _, .cons a b t => .cons (a.mono e) (b.mono e) (NtR.mono e t)

/-- what does not change in a def's body: the program, K, the rows that may be drawn from, the known part and the heap at the entry -/
structure Bs where
  P : Program
  w : World
  K : PySem.W.Frag
  A : List Addr
  F0 : Hp
  H0 : Hp

def SkOk (B : Bs) (F H : Hp) (v : Option V) : Sk → Prop
  | .un => True
  | .im d => ∃ x, v = some x ∧ Dr F x d
  | .ml ds => ∃ l xs, v = some (.ref l) ∧ l ∉ B.A ∧ B.H0 l = none ∧ F l = none ∧ H l = some (.lst xs) ∧ DrA F xs ds
  | .dk kvs => ∃ l ws, v = some (.ref l) ∧ l ∉ B.A ∧ B.H0 l = none ∧ F l = none ∧ H l = some (.dK ws) ∧ KvR kI F ws kvs
  | .dt kvs => ∃ l ws, v = some (.ref l) ∧ l ∉ B.A ∧ B.H0 l = none ∧ F l = none ∧ H l = some (.dT ws) ∧ KvR kT F ws kvs
  | .dn kvs => ∃ l L, v = some (.ref l) ∧ l ∉ B.A ∧ B.H0 l = none ∧ F l = none ∧ H l = some (DnO B.P B.w l L) ∧ NtR F L kvs
  | .row => ∃ a, v = some (.ref a) ∧ a ∈ B.A
  | .scr => ∃ (S : Addr) (ns : List Int), v = some (.ref S) ∧ SqL B.K F S (ns.map V.int)
def slot (σ : L2.St) (i : Nat) : Option V := σ.getD i none
theorem slot_eq {σ : L2.St} {i : Nat} {x : V} (h : slot σ i = some x) : σ[i]? = some (some x) := by
  unfold slot at h
  rw [List.getD_eq_getElem?_getD] at h
  cases q : σ[i]? with
  | none => rw [q] at h; cases h
  | some u => rw [q] at h; exact congrArg some h
theorem slot_of {σ : L2.St} {i : Nat} {x : Option V} (h : σ[i]? = some x) : slot σ i = x := by
  unfold slot
  rw [List.getD_eq_getElem?_getD, h]
  rfl

structure Own (B : Bs) (F H : Hp) (σ : L2.St) (Γ : List Sk) : Prop where
  gr : Gr B.A B.F0 B.H0 F H
  len : σ.length = Γ.length
  at_ : ∀ i s, Γ[i]? = some s → SkOk B F H (slot σ i) s
  sep : ∀ i j s t x, i ≠ j → Γ[i]? = some s → Γ[j]? = some t → s.mut = true → t.mut = true → slot σ i = some x → slot σ j ≠ some x
  rows : ∀ a ∈ B.A, RowOk B.K F H a
theorem Own.fh {B : Bs} {F H : Hp} {σ : L2.St} {Γ : List Sk} (o : Own B F H σ Γ) : Same F H := o.gr.fh

theorem SkOk.gr {B : Bs} {F H F' H' : Hp} {v : Option V} {s : Sk} (h : SkOk B F H v s) (g : Gr B.A F H F' H') : SkOk B F' H' v s := by
  cases s with
  | un => trivial
  | im d => obtain ⟨x, e, r⟩ := h; exact ⟨x, e, r.mono g.ff⟩
  | ml ds =>
    obtain ⟨l, xs, e, ha, h0, hf, hl, r⟩ := h
    exact ⟨l, xs, e, ha, h0, g.nf l (by rw [hl]; exact fun z => nomatch z) hf, g.hh l _ ha hl, r.mono g.ff⟩
  | dk kvs =>
    obtain ⟨l, xs, e, ha, h0, hf, hl, r⟩ := h
    exact ⟨l, xs, e, ha, h0, g.nf l (by rw [hl]; exact fun z => nomatch z) hf, g.hh l _ ha hl, r.mono g.ff⟩
  | dt kvs =>
    obtain ⟨l, xs, e, ha, h0, hf, hl, r⟩ := h
    exact ⟨l, xs, e, ha, h0, g.nf l (by rw [hl]; exact fun z => nomatch z) hf, g.hh l _ ha hl, r.mono g.ff⟩
  | dn ks =>
    obtain ⟨l, L, e, ha, h0, hf, hl, r⟩ := h
    exact ⟨l, L, e, ha, h0, g.nf l (by rw [hl]; exact fun z => nomatch z) hf, g.hh l _ ha hl, r.mono g.ff⟩
  | row => exact h
  | scr => obtain ⟨S, ns, e, q⟩ := h; exact ⟨S, ns, e, g.ff.seq q⟩
theorem Own.grow {B : Bs} {F H F' H' : Hp} {σ : L2.St} {Γ : List Sk} (o : Own B F H σ Γ) (g : Gr B.A F H F' H') (r : ∀ a ∈ B.A, RowOk B.K F' H' a) : Own B F' H' σ Γ :=
  ⟨o.gr.trans g, o.len, fun i s h => (o.at_ i s h).gr g, o.sep, r⟩
theorem RowOk.gr0 {K : PySem.W.Frag} {F H F' H' : Hp} {a : Addr} (r : RowOk K F H a) (g : Gr [] F H F' H') : RowOk K F' H' a := by
  obtain ⟨hf, S, ns, i, j, z, h, q, b⟩ := r
  exact ⟨g.nf a (by rw [h]; exact fun z => nomatch z) hf, S, ns, i, j, z, g.same _ _ h, g.ff.seq q, b⟩
theorem rows_gr0 {B : Bs} {F H F' H' : Hp} {σ : L2.St} {Γ : List Sk} (o : Own B F H σ Γ) (g : Gr [] F H F' H') : ∀ a ∈ B.A, RowOk B.K F' H' a := fun a ha => (o.rows a ha).gr0 g
theorem Own.grow0 {B : Bs} {F H F' H' : Hp} {σ : L2.St} {Γ : List Sk} (o : Own B F H σ Γ) (g : Gr [] F H F' H') : Own B F' H' σ Γ :=
  o.grow (g.weak fun _ h => nomatch h) (rows_gr0 o g)

theorem slot_set_ne {σ : L2.St} {i j : Nat} {x : Option V} (h : i ≠ j) : slot (σ.set i x) j = slot σ j := by
  unfold slot
  rw [List.getD_eq_getElem?_getD, List.getElem?_set_ne h, ← List.getD_eq_getElem?_getD]
theorem slot_set_same {σ : L2.St} {i : Nat} {x : Option V} (h : i < σ.length) : slot (σ.set i x) i = x := slot_of (List.getElem?_set_self h)
/-- a slot is set -/
theorem Own.setSk {B : Bs} {F H : Hp} {σ : L2.St} {Γ : List Sk} {i : Nat} {x : V} {s : Sk} (o : Own B F H σ Γ) (hx : SkOk B F H (some x) s)
    (fresh : s.mut = true → ∀ j t, j ≠ i → Γ[j]? = some t → t.mut = true → slot σ j ≠ some x) : Own B F H (σ.set i (some x)) (Γ.set i s) where
  gr := o.gr
  len := by simpa using o.len
  at_ := fun j t h => by
    by_cases e : i = j
    · subst e
      by_cases hi : i < Γ.length
      · rw [List.getElem?_set_self hi] at h
        cases h
        rw [slot_set_same (by rw [o.len]; exact hi)]
        exact hx
      · rw [List.getElem?_eq_none (by simpa using hi)] at h; cases h
    · rw [List.getElem?_set_ne e] at h
      rw [slot_set_ne e]
      exact o.at_ j t h
  sep := fun j k a b y ne hj hk ms mt e1 => by
    have lt : ∀ {t : Sk} {j : Nat}, (Γ.set i s)[j]? = some t → i = j → i < Γ.length := fun {t j} h z => by
      subst z
      have := (List.getElem?_eq_some_iff.mp h).1
      simpa using this
    by_cases hij : i = j
    · have hi := lt hj hij
      subst hij
      rw [List.getElem?_set_self hi] at hj
      cases hj
      rw [List.getElem?_set_ne ne] at hk
      rw [slot_set_same (by rw [o.len]; exact hi)] at e1
      cases e1
      rw [slot_set_ne ne]
      exact fresh ms k b (Ne.symm ne) hk mt
    · rw [List.getElem?_set_ne hij] at hj
      rw [slot_set_ne hij] at e1
      by_cases hik : i = k
      · have hi := lt hk hik
        subst hik
        rw [List.getElem?_set_self hi] at hk
        cases hk
        rw [slot_set_same (by rw [o.len]; exact hi)]
        intro z
        cases z
        exact fresh mt j a (Ne.symm hij) hj ms e1
      · rw [List.getElem?_set_ne hik] at hk
        rw [slot_set_ne hik]
        exact o.sep j k a b y ne hj hk ms mt e1
  rows := o.rows
theorem Own.setIm {B : Bs} {F H : Hp} {σ : L2.St} {Γ : List Sk} {i : Nat} {x : V} {d : PyData} (o : Own B F H σ Γ) (hx : Dr F x d) : Own B F H (σ.set i (some x)) (Γ.set i (.im d)) :=
  o.setSk (s := .im d) ⟨x, rfl, hx⟩ fun z => nomatch z
/-- a mutable slot's address -/
theorem SkOk.addr {B : Bs} {F H : Hp} {v : Option V} {s : Sk} (h : SkOk B F H v s) (m : s.mut = true) : ∃ l u, v = some (.ref l) ∧ l ∉ B.A ∧ B.H0 l = none ∧ F l = none ∧ H l = some u := by
  cases s with
  | ml ds => obtain ⟨l, xs, e, ha, h0, hf, hl, r⟩ := h; exact ⟨l, _, e, ha, h0, hf, hl⟩
  | dk ds => obtain ⟨l, xs, e, ha, h0, hf, hl, r⟩ := h; exact ⟨l, _, e, ha, h0, hf, hl⟩
  | dt ds => obtain ⟨l, xs, e, ha, h0, hf, hl, r⟩ := h; exact ⟨l, _, e, ha, h0, hf, hl⟩
  | dn ds => obtain ⟨l, xs, e, ha, h0, hf, hl, r⟩ := h; exact ⟨l, _, e, ha, h0, hf, hl⟩
  | un => cases m
  | im d => cases m
  | row => cases m
  | scr => cases m
/-- an own object is changed -/
theorem Own.write {B : Bs} {F H : Hp} {σ : L2.St} {Γ : List Sk} {i : Nat} {l : Addr} {s s' : Sk} {u : HO} (o : Own B F H σ Γ) (hi : Γ[i]? = some s) (m : s.mut = true) (m' : s'.mut = true) (hl : slot σ i = some (.ref l))
    (hn : SkOk B F (upd H l u) (some (.ref l)) s') : Own B F (upd H l u) σ (Γ.set i s') := by
  obtain ⟨l2, u0, e, ha, h0, hf, hh⟩ := (o.at_ i s hi).addr m
  rw [hl] at e
  cases e
  have k : ∀ b, b ≠ l → (upd H l u) b = H b := fun b h => upd_ne h
  have nA : ∀ a ∈ B.A, a ≠ l := fun a h z => ha (z ▸ h)
  refine ⟨⟨o.gr.ff, fun b x hb => ?_, fun b x hb hx => ?_, o.gr.nf, fun b hb => ?_⟩, by simpa using o.len, fun j t hj => ?_, fun j k' a b y ne hj hk ms mt => ?_, fun a haA => ?_⟩
  · rw [k b (fun z => by rw [z, hf] at hb; cases hb)]
    exact o.gr.fh b x hb
  · rw [k b (fun z => by rw [z, h0] at hx; cases hx)]
    exact o.gr.hh b x hb hx
  · rw [k b (fun z => hb (by rw [z]; exact h0))]
    exact o.gr.tt b hb
  · by_cases e : i = j
    · subst e
      have hi2 : i < Γ.length := (List.getElem?_eq_some_iff.mp hi).1
      rw [List.getElem?_set_self hi2] at hj
      cases hj
      rw [hl]
      exact hn
    · rw [List.getElem?_set_ne e] at hj
      have hj2 := o.at_ j t hj
      have nl : t.mut = true → ∀ l', slot σ j = some (.ref l') → l' ≠ l := fun mt l' h z => o.sep i j s t _ e hi hj m mt hl (by rw [h, z])
      cases t with
      | un => trivial
      | im d => exact hj2
      | ml ds =>
        obtain ⟨l', xs, e1, a1, a2, a3, a4, a5⟩ := hj2
        exact ⟨l', xs, e1, a1, a2, a3, by rw [k l' (nl rfl l' e1)]; exact a4, a5⟩
      | dk ds =>
        obtain ⟨l', xs, e1, a1, a2, a3, a4, a5⟩ := hj2
        exact ⟨l', xs, e1, a1, a2, a3, by rw [k l' (nl rfl l' e1)]; exact a4, a5⟩
      | dt ds =>
        obtain ⟨l', xs, e1, a1, a2, a3, a4, a5⟩ := hj2
        exact ⟨l', xs, e1, a1, a2, a3, by rw [k l' (nl rfl l' e1)]; exact a4, a5⟩
      | dn ds =>
        obtain ⟨l', xs, e1, a1, a2, a3, a4, a5⟩ := hj2
        exact ⟨l', xs, e1, a1, a2, a3, by rw [k l' (nl rfl l' e1)]; exact a4, a5⟩
      | row => exact hj2
      | scr => exact hj2
  · have hi2 : i < Γ.length := (List.getElem?_eq_some_iff.mp hi).1
    have old : ∀ {j : Nat} {t : Sk}, (Γ.set i s')[j]? = some t → t.mut = true → ∃ t', Γ[j]? = some t' ∧ t'.mut = true := fun {j t} h mt => by
      by_cases e : i = j
      · subst e
        exact ⟨s, hi, m⟩
      · rw [List.getElem?_set_ne e] at h
        exact ⟨t, h, mt⟩
    obtain ⟨a', ha', ma'⟩ := old hj ms
    obtain ⟨b', hb', mb'⟩ := old hk mt
    exact o.sep j k' a' b' y ne ha' hb' ma' mb'
  · obtain ⟨f, S, ns, p, q, r, h, sq, b⟩ := o.rows a haA
    exact ⟨f, S, ns, p, q, r, by rw [k a (nA a haA)]; exact h, sq, b⟩
end Dl
set_option Elab.async false
set_option linter.all false
set_option maxRecDepth 100000
set_option maxHeartbeats 1000000
/-! Data layer 2: expressions, tests, arguments. -/
namespace Dl
open PySem PySem.Spec PyProof.Rows L2

/-! ### plain data -/
theorem Pl.shape : ∀ (n : Nat) (d : PyData), Pl n d = true → d.canLay0 = true ∧ d.depth ≤ n := by
  intro n
  induction n with
  | zero =>
    intro d h
    cases d <;> first | (simp [Pl] at h; done) | exact ⟨by simp [PyData.canLay0], by simp [PyData.depth]⟩
  | succ n ih =>
    have all : ∀ ds : List PyData, ds.all (Pl n) = true → PyData.canLayAll0 ds = true ∧ PyData.depthAll ds ≤ n := by
      intro ds
      induction ds with
      | nil => intro _; exact ⟨by simp [PyData.canLayAll0], by simp [PyData.depthAll]⟩
      | cons d ds ih2 =>
        intro h
        rw [List.all_cons, Bool.and_eq_true] at h
        obtain ⟨a, b⟩ := ih d h.1
        obtain ⟨c, e⟩ := ih2 h.2
        refine ⟨by simp [PyData.canLayAll0, a, c], ?_⟩
        simp only [PyData.depthAll]
        omega
    intro d h
    cases d with
    | none => exact ⟨by simp [PyData.canLay0], by simp [PyData.depth]⟩
    | bool b => exact ⟨by simp [PyData.canLay0], by simp [PyData.depth]⟩
    | int i => exact ⟨by simp [PyData.canLay0], by simp [PyData.depth]⟩
    | str s => simp [Pl] at h
    | dict s => simp [Pl] at h
    | list ds =>
      obtain ⟨a, b⟩ := all ds (by simpa [Pl] using h)
      refine ⟨by simp [PyData.canLay0, a], ?_⟩
      simp only [PyData.depth]
      omega
    | tuple ds =>
      obtain ⟨a, b⟩ := all ds (by simpa [Pl] using h)
      refine ⟨by simp [PyData.canLay0, a], ?_⟩
      simp only [PyData.depth]
      omega
theorem _root_.Eq.shaped {n : Nat} {d : PyData} (h : Pl n d = true) (hn : n ≤ 64) : SeqAt.shaped d = true := by
  obtain ⟨a, b⟩ := Pl.shape n d h
  show (d.canLay0 && decide (d.depth ≤ 64)) = true
  rw [Bool.and_eq_true]
  exact ⟨a, decide_eq_true (by omega)⟩
theorem Pl.up : ∀ (n m : Nat) (d : PyData), n ≤ m → Pl n d = true → Pl m d = true := by
  intro n
  induction n with
  | zero => intro m d _ h; cases m <;> cases d <;> simp_all [Pl]
  | succ n ih =>
    intro m d hm h
    obtain ⟨k, rfl⟩ : ∃ k, m = k + 1 := ⟨m - 1, by omega⟩
    cases d with
    | tuple ds =>
      simp only [Pl, List.all_eq_true] at h ⊢
      exact fun x hx => ih k x (by omega) (h x hx)
    | list ds =>
      simp only [Pl, List.all_eq_true] at h ⊢
      exact fun x hx => ih k x (by omega) (h x hx)
    | _ => simp_all [Pl]

/-- ints in tuples alone, of a depth -/
def Tp : Nat → PyData → Bool
  | _, .int _ => true
  | n + 1, .tuple ds => ds.all (Tp n)
  | _, _ => false
theorem Tp.pl : ∀ (n : Nat) (d : PyData), Tp n d = true → Pl n d = true := by
  intro n
  induction n with
  | zero => intro d h; cases d <;> simp_all [Tp, Pl]
  | succ n ih =>
    intro d h
    cases d with
    | tuple ds =>
      simp only [Tp, Pl, List.all_eq_true] at h ⊢
      exact fun x hx => ih x (h x hx)
    | int i => rfl
    | _ => simp [Tp] at h

/-! ### judgements -/
variable {B : Bs} {Γ : List Sk}
/-- what is known behind an expression -/
def EvP (B : Bs) (te : TE) (Γ : List Sk) (P : PyData → Prop) : Prop := ∀ (F H : Hp) (σ : L2.St), Own B F H σ Γ → ∀ Q : VK,
  (∀ (d : PyData) (v : V) (F' H' : Hp), P d → Gr B.A F H F' H' → (∀ a ∈ B.A, RowOk B.K F' H' a) → Dr F' v d → Q v H') → te σ H Q
abbrev Ev (B : Bs) (te : TE) (Γ : List Sk) (d : PyData) : Prop := EvP B te Γ (fun x => x = d)
def EtP (B : Bs) (t : TT) (Γ : List Sk) (P : Bool → Prop) : Prop := ∀ (F H : Hp) (σ : L2.St), Own B F H σ Γ → ∀ Q : Bool → Hp → Prop,
  (∀ (b : Bool) (F' H' : Hp), P b → Gr B.A F H F' H' → (∀ a ∈ B.A, RowOk B.K F' H' a) → Q b H') → t σ H Q
abbrev Et (B : Bs) (t : TT) (Γ : List Sk) (b : Bool) : Prop := EtP B t Γ (fun x => x = b)
def EaP (B : Bs) (t : TA) (Γ : List Sk) (P : List PyData → Prop) : Prop := ∀ (F H : Hp) (σ : L2.St), Own B F H σ Γ → ∀ Q : List V → Hp → Prop,
  (∀ (ds : List PyData) (vs : List V) (F' H' : Hp), P ds → Gr B.A F H F' H' → (∀ a ∈ B.A, RowOk B.K F' H' a) → DrA F' vs ds → Q vs H') → t σ H Q
abbrev Ea (B : Bs) (t : TA) (Γ : List Sk) (ds : List PyData) : Prop := EaP B t Γ (fun x => x = ds)

theorem evp_mono {te : TE} {P P' : PyData → Prop} (h : EvP B te Γ P) (k : ∀ d, P d → P' d) : EvP B te Γ P' := fun F H σ o Q q => h F H σ o Q fun d v F' H' p => q d v F' H' (k d p)
theorem etp_mono {t : TT} {P P' : Bool → Prop} (h : EtP B t Γ P) (k : ∀ d, P d → P' d) : EtP B t Γ P' := fun F H σ o Q q => h F H σ o Q fun d F' H' p => q d F' H' (k d p)
theorem ev_eq {te : TE} {d d' : PyData} (h : Ev B te Γ d) (e : d = d') : Ev B te Γ d' := e ▸ h
theorem et_eq {t : TT} {d d' : Bool} (h : Et B t Γ d) (e : d = d') : Et B t Γ d' := e ▸ h

theorem ev_c {v : V} {d : PyData} (h : ∀ F, Dr F v d) : Ev B (tC v) Γ d := fun F H σ o Q q => q d v F H rfl (Gr.refl o.fh) o.rows (h F)
theorem ev_int {i : Int} : Ev B (tC (.int i)) Γ (.int i) := ev_c fun _ => .int i
theorem ev_bl {b : Bool} : Ev B (tC (.bl b)) Γ (.bool b) := ev_c fun _ => .bl b
theorem ev_non : Ev B (tC .non) Γ .none := ev_c fun _ => .non
theorem ev_var {i : Nat} {d : PyData} (h : Γ[i]? = some (.im d)) : Ev B (tVar i) Γ d := fun F H σ o Q q => by
  obtain ⟨x, e, r⟩ := o.at_ i _ h
  exact ⟨x, slot_eq e, q d x F H rfl (Gr.refl o.fh) o.rows r⟩

/-! ### operators -/
def OpD (r : R2) (da db : PyData) (P : PyData → Prop) : Prop := ∀ (F H : Hp) (x y : V), Same F H → Dr F x da → Dr F y db → ∀ Q : VK,
  (∀ (d : PyData) (v : V) (F' H' : Hp), P d → Gr [] F H F' H' → Dr F' v d → Q v H') → r x y H Q
theorem evp_op {ta tb : TE} {r : R2} {Pa P : PyData → Prop} {Pb : PyData → PyData → Prop} (ha : EvP B ta Γ Pa) (hb : ∀ da, Pa da → EvP B tb Γ (Pb da)) (hr : ∀ da db, Pa da → Pb da db → OpD r da db P) : EvP B (tOp r ta tb) Γ P := fun F H σ o Q q => by
  refine ha F H σ o _ fun da x F1 H1 pa g1 r1 hx => ?_
  refine hb da pa F1 H1 σ (o.grow g1 r1) _ fun db y F2 H2 pb g2 r2 hy => ?_
  refine hr da db pa pb F2 H2 x y g2.fh (hx.mono g2.ff) hy Q fun d v F3 H3 p g3 hv => ?_
  exact q d v F3 H3 p ((g1.trans g2).trans (g3.weak fun _ h => nomatch h)) (fun a ha => (r2 a ha).gr0 g3) hv
theorem ev_op {ta tb : TE} {r : R2} {da db : PyData} {P : PyData → Prop} (ha : Ev B ta Γ da) (hb : Ev B tb Γ db) (hr : OpD r da db P) : EvP B (tOp r ta tb) Γ P :=
  evp_op ha (fun _ _ => hb) (fun _ _ e1 e2 => by rw [e1, e2]; exact hr)
theorem opd_c {r : R2} {da db d : PyData} (h : ∀ (F H : Hp) (x y : V), Same F H → Dr F x da → Dr F y db → ∀ Q : VK, (∀ v, (∀ F', Dr F' v d) → Q v H) → r x y H Q) : OpD r da db (fun z => z = d) :=
  fun F H x y e hx hy Q q => h F H x y e hx hy Q fun v hv => q d v F H rfl (Gr.refl e) (hv F)
theorem opd_I0 {g : Int → Int → V} {i j : Int} {d : PyData} (h : ∀ F, Dr F (g i j) d) : OpD (rI0 g) (.int i) (.int j) (fun z => z = d) :=
  opd_c fun F H x y _ hx hy Q q => ⟨i, j, hx.int_inv, hy.int_inv, q _ h⟩
theorem opd_I {C : Int → Int → Prop} {g : Int → Int → V} {i j : Int} {d : PyData} (hc : C i j) (h : ∀ F, Dr F (g i j) d) : OpD (rI C g) (.int i) (.int j) (fun z => z = d) :=
  opd_c fun F H x y _ hx hy Q q => ⟨i, j, hx.int_inv, hy.int_inv, hc, q _ h⟩
theorem opd_add {i j : Int} : OpD (rI0 fun i j => .int (i + j)) (.int i) (.int j) (fun z => z = .int (i + j)) := opd_I0 fun _ => .int _
theorem opd_sub {i j : Int} : OpD (rI0 fun i j => .int (i - j)) (.int i) (.int j) (fun z => z = .int (i - j)) := opd_I0 fun _ => .int _
theorem opd_mul {i j : Int} (h : CMul i j) : OpD (rI CMul fun i j => .int (i * j)) (.int i) (.int j) (fun z => z = .int (i * j)) := opd_I h fun _ => .int _
theorem opd_fdiv {i j : Int} (h : CDivN i j) : OpD (rI CDivN fun i j => .int (i.fdiv j)) (.int i) (.int j) (fun z => z = .int (i.fdiv j)) := opd_I h fun _ => .int _
theorem opd_mod {i j : Int} (h : j ≠ 0) : OpD (rI (fun _ j => j ≠ 0) fun i j => .int (i.fmod j)) (.int i) (.int j) (fun z => z = .int (i.fmod j)) := opd_I h fun _ => .int _
theorem opd_pow {i j : Int} (h : CPow i j) : OpD (rI CPow fun i j => .int (i ^ j.toNat)) (.int i) (.int j) (fun z => z = .int (i ^ j.toNat)) := opd_I h fun _ => .int _
theorem opd_lt {i j : Int} : OpD (rI0 fun i j => .bl (decide (i < j))) (.int i) (.int j) (fun z => z = .bool (decide (i < j))) := opd_I0 fun _ => .bl _
theorem opd_le {i j : Int} : OpD (rI0 fun i j => .bl (decide (i ≤ j))) (.int i) (.int j) (fun z => z = .bool (decide (i ≤ j))) := opd_I0 fun _ => .bl _
theorem opd_gt {i j : Int} : OpD (rI0 fun i j => .bl (decide (j < i))) (.int i) (.int j) (fun z => z = .bool (decide (j < i))) := opd_I0 fun _ => .bl _
theorem opd_ge {i j : Int} : OpD (rI0 fun i j => .bl (decide (j ≤ i))) (.int i) (.int j) (fun z => z = .bool (decide (j ≤ i))) := opd_I0 fun _ => .bl _
theorem opd_eq {K : PySem.W.Frag} {n m : Nat} {da db : PyData} (ha : Pl n da = true) (hb : Pl m db = true) (hn : n ≤ 64) (hm : m ≤ 64) : OpD (rEqD K) da db (fun z => z = .bool (PyData.eqv da db)) :=
  opd_c fun F H x y e hx hy Q q => ⟨da, db, (hx.mono e).dp n ha, (hy.mono e).dp m hb, ha.shaped hn, hb.shaped hm, q _ fun _ => .bl _⟩
theorem opd_ne {K : PySem.W.Frag} {n m : Nat} {da db : PyData} (ha : Pl n da = true) (hb : Pl m db = true) (hn : n ≤ 64) (hm : m ≤ 64) : OpD (rNeD K) da db (fun z => z = .bool (!PyData.eqv da db)) :=
  opd_c fun F H x y e hx hy Q q => ⟨da, db, (hx.mono e).dp n ha, (hy.mono e).dp m hb, ha.shaped hn, hb.shaped hm, q _ fun _ => .bl _⟩
theorem opd_in {K : PySem.W.Frag} {n m : Nat} {d : PyData} {ds : List PyData} (ha : Pl n d = true) (hb : Pl m (.list ds) = true) (hn : n ≤ 64) (hm : m ≤ 64) : OpD (rInD K) d (.list ds) (fun z => z = .bool (ds.any fun z => PyData.eqv z d)) :=
  opd_c fun F H x y e hx hy Q q => ⟨d, ds, (hx.mono e).dp n ha, (hy.mono e).dp m hb, ha.shaped hn, hb.shaped hm, q _ fun _ => .bl _⟩
theorem opd_notIn {K : PySem.W.Frag} {n m : Nat} {d : PyData} {ds : List PyData} (ha : Pl n d = true) (hb : Pl m (.list ds) = true) (hn : n ≤ 64) (hm : m ≤ 64) : OpD (rNotInD K) d (.list ds) (fun z => z = .bool (!ds.any fun z => PyData.eqv z d)) :=
  opd_c fun F H x y e hx hy Q q => ⟨d, ds, (hx.mono e).dp n ha, (hy.mono e).dp m hb, ha.shaped hn, hb.shaped hm, q _ fun _ => .bl _⟩
/-- is None -/
def isNone : PyData → Bool
  | .none => true
  | _ => false
theorem dr_none {F : Hp} {v : V} {d : PyData} (h : Dr F v d) : decide (v = .non) = isNone d := by
  cases h <;> simp [isNone]
theorem opd_isN {d : PyData} {d2 : PyData} (h2 : d2 = .none) : OpD (fun x y H Q => y = .non ∧ Q (.bl (decide (x = .non))) H) d d2 (fun z => z = .bool (isNone d)) :=
  fun F H x y e hx hy Q q => by
    subst h2
    refine ⟨hy.none_inv, ?_⟩
    rw [dr_none hx]
    exact q _ _ F H rfl (Gr.refl e) (.bl _)
theorem opd_notN {d : PyData} {d2 : PyData} (h2 : d2 = .none) : OpD (fun x y H Q => y = .non ∧ Q (.bl (!decide (x = .non))) H) d d2 (fun z => z = .bool (!isNone d)) :=
  fun F H x y e hx hy Q q => by
    subst h2
    refine ⟨hy.none_inv, ?_⟩
    rw [dr_none hx]
    exact q _ _ F H rfl (Gr.refl e) (.bl _)
theorem opd_notB {a b : Bool} : OpD rNotB (.bool a) (.bool b) (fun z => z = .bool (!decide (a = b))) :=
  opd_c fun F H x y e hx hy Q q => ⟨a, b, hx.bool_inv, hy.bool_inv, q _ fun _ => .bl _⟩

/-! ### subscripts -/
theorem atI_dr {F : Hp} {xs : List V} {ds : List PyData} {z : Int} {d : PyData} (h : DrA F xs ds) (e : atI ds z = some d) : ∃ v, atI xs z = some v ∧ Dr F v d := by
  unfold atI at e ⊢
  rw [h.len]
  cases q : ixN ds.length z with
  | none => rw [q] at e; cases e
  | some j =>
    rw [q] at e
    obtain ⟨v, h1, h2⟩ := h.get (i := j) e
    exact ⟨v, h1, h2⟩
theorem opd_ixL {K : PySem.W.Frag} {ds : List PyData} {z : Int} {d : PyData} (e : atI ds z = some d) : OpD (rIx K) (.list ds) (.int z) (fun x => x = d) := fun F H x y s hx hy Q q => by
  obtain ⟨a, xs, rfl, ha, r⟩ := hx.lst_inv
  obtain rfl := hy.int_inv
  obtain ⟨v, e1, hv⟩ := atI_dr r e
  exact .inl ⟨a, xs, z, v, rfl, rfl, SqL.of (s _ _ ha), e1, q d v F H rfl (Gr.refl s) hv⟩
theorem opd_ixT {K : PySem.W.Frag} {ds : List PyData} {z : Int} {d : PyData} (e : atI ds z = some d) : OpD (rIx K) (.tuple ds) (.int z) (fun x => x = d) := fun F H x y s hx hy Q q => by
  obtain ⟨a, xs, rfl, ha, r⟩ := hx.tup_inv
  obtain rfl := hy.int_inv
  obtain ⟨v, e1, hv⟩ := atI_dr r e
  exact .inr (.inl ⟨a, xs, z, v, rfl, rfl, SqT.of (s _ _ ha), e1, q d v F H rfl (Gr.refl s) hv⟩)
/-- xs[i], xs one's own list -/
theorem ev_ixM {K : PySem.W.Frag} {tb : TE} {i : Nat} {ds : List PyData} {z : Int} {d : PyData} (h : Γ[i]? = some (.ml ds)) (hb : Ev B tb Γ (.int z)) (e : atI ds z = some d) : Ev B (tOp (rIx K) (tVar i) tb) Γ d := fun F H σ o Q q => by
  obtain ⟨l, xs, es, ha, h0, hf, hl, r⟩ := o.at_ i _ h
  refine ⟨.ref l, slot_eq es, ?_⟩
  refine hb F H σ o _ fun db y F2 H2 pb g2 r2 hy => ?_
  subst pb
  obtain rfl := hy.int_inv
  obtain ⟨v, e1, hv⟩ := atI_dr (r.mono g2.ff) e
  exact .inl ⟨l, xs, z, v, rfl, rfl, SqL.of (g2.hh _ _ ha hl), e1, q d v F2 H2 rfl g2 r2 hv⟩
theorem evp_ixM {K : PySem.W.Frag} {tb : TE} {i : Nat} {ds : List PyData} {Pz P : PyData → Prop} (h : Γ[i]? = some (.ml ds)) (hb : EvP B tb Γ Pz) (e : ∀ x, Pz x → ∃ z d, x = .int z ∧ atI ds z = some d ∧ P d) : EvP B (tOp (rIx K) (tVar i) tb) Γ P := fun F H σ o Q q => by
  obtain ⟨l, xs, es, ha, h0, hf, hl, r⟩ := o.at_ i _ h
  refine ⟨.ref l, slot_eq es, ?_⟩
  refine hb F H σ o _ fun db y F2 H2 pb g2 r2 hy => ?_
  obtain ⟨z, d, rfl, e2, p⟩ := e db pb
  obtain rfl := hy.int_inv
  obtain ⟨v, e1, hv⟩ := atI_dr (r.mono g2.ff) e2
  exact .inl ⟨l, xs, z, v, rfl, rfl, SqL.of (g2.hh _ _ ha hl), e1, q d v F2 H2 p g2 r2 hv⟩

/-! ### a one-place operator -/
theorem ev_un {ta : TE} {r : V → Hp → VK → Prop} {da d : PyData} (ha : Ev B ta Γ da) (hr : ∀ (F H : Hp) (x : V), Dr F x da → ∀ Q : VK, (∀ v, (∀ F', Dr F' v d) → Q v H) → r x H Q) : Ev B (tUn r ta) Γ d := fun F H σ o Q q =>
  ha F H σ o _ fun _ x F1 H1 pa g1 r1 hx => hr F1 H1 x (pa ▸ hx) Q fun v hv => q d v F1 H1 rfl g1 r1 (hv F1)
theorem ev_neg {ta : TE} {i : Int} (ha : Ev B ta Γ (.int i)) : Ev B (tUn (rU fun i => .int (-i)) ta) Γ (.int (-i)) := ev_un ha fun F H x hx Q q => ⟨i, hx.int_inv, q _ fun _ => .int _⟩

/-! ### arguments, displays, calls of built-ins -/
theorem ea_nil : Ea B tNil Γ [] := fun F H σ o Q q => q [] [] F H rfl (Gr.refl o.fh) o.rows .nil
theorem eap_cons {ta : TE} {tr : TA} {Pa : PyData → Prop} {Pr : PyData → List PyData → Prop} {P : List PyData → Prop} (ha : EvP B ta Γ Pa) (hr : ∀ d, Pa d → EaP B tr Γ (Pr d)) (hp : ∀ d ds, Pa d → Pr d ds → P (d :: ds)) : EaP B (tCons ta tr) Γ P := fun F H σ o Q q => by
  refine ha F H σ o _ fun d x F1 H1 pa g1 r1 hx => ?_
  refine hr d pa F1 H1 σ (o.grow g1 r1) _ fun ds xs F2 H2 pr g2 r2 hxs => ?_
  exact q (d :: ds) (x :: xs) F2 H2 (hp d ds pa pr) (g1.trans g2) r2 (.cons (hx.mono g2.ff) hxs)
theorem ea_cons {ta : TE} {tr : TA} {d : PyData} {ds : List PyData} (ha : Ev B ta Γ d) (hr : Ea B tr Γ ds) : Ea B (tCons ta tr) Γ (d :: ds) :=
  eap_cons ha (fun _ _ => hr) (fun _ _ e1 e2 => by rw [e1, e2])
theorem evp_tup {t : TA} {Ps : List PyData → Prop} {P : PyData → Prop} (h : EaP B t Γ Ps) (hp : ∀ ds, Ps ds → ds.length ≤ 100000 ∧ P (.tuple ds)) : EvP B (tTup t) Γ P := fun F H σ o Q q => by
  refine h F H σ o _ fun ds vs F1 H1 ps g1 r1 hv => ?_
  obtain ⟨hz, hp⟩ := hp ds ps
  refine ⟨?_, fun p np => ?_⟩
  · have := hv.len
    rw [sizeLine_eq]
    omega
  have g2 : Gr [] F1 H1 _ _ := Gr.new (o := .tup vs) g1.fh np
  exact q (.tuple ds) (.ref p) _ _ hp (g1.trans (g2.weak fun _ h => nomatch h)) (fun a ha => (r1 a ha).gr0 g2) (.tup upd_same (hv.mono g2.ff))
theorem ev_tup {t : TA} {ds : List PyData} (h : Ea B t Γ ds) (hz : ds.length ≤ 100000 := by first | exact Nat.le_of_ble_eq_true rfl | assumption) : Ev B (tTup t) Γ (.tuple ds) := evp_tup h fun _ e => ⟨e ▸ hz, e ▸ rfl⟩
theorem evp_lst {t : TA} {Ps : List PyData → Prop} {P : PyData → Prop} (h : EaP B t Γ Ps) (hp : ∀ ds, Ps ds → ds.length ≤ 100000 ∧ P (.list ds)) : EvP B (tLst t) Γ P := fun F H σ o Q q => by
  refine h F H σ o _ fun ds vs F1 H1 ps g1 r1 hv => ?_
  obtain ⟨hz, hp⟩ := hp ds ps
  refine ⟨?_, fun p np => ?_⟩
  · have := hv.len
    rw [sizeLine_eq]
    omega
  have g2 : Gr [] F1 H1 _ _ := Gr.new (o := .lst vs) g1.fh np
  exact q (.list ds) (.ref p) _ _ hp (g1.trans (g2.weak fun _ h => nomatch h)) (fun a ha => (r1 a ha).gr0 g2) (.lst upd_same (hv.mono g2.ff))
theorem ev_lst {t : TA} {ds : List PyData} (h : Ea B t Γ ds) (hz : ds.length ≤ 100000 := by first | exact Nat.le_of_ble_eq_true rfl | assumption) : Ev B (tLst t) Γ (.list ds) := evp_lst h fun _ e => ⟨e ▸ hz, e ▸ rfl⟩

def CallD (r : List V → Hp → VK → Prop) (ds : List PyData) (P : PyData → Prop) : Prop := ∀ (F H : Hp) (xs : List V), Same F H → DrA F xs ds → ∀ Q : VK,
  (∀ (d : PyData) (v : V) (F' H' : Hp), P d → Gr [] F H F' H' → Dr F' v d → Q v H') → r xs H Q
theorem evp_cb {t : TA} {r : List V → Hp → VK → Prop} {Ps : List PyData → Prop} {P : PyData → Prop} (h : EaP B t Γ Ps) (hr : ∀ ds, Ps ds → CallD r ds P) : EvP B (tCB r t) Γ P := fun F H σ o Q q => by
  refine h F H σ o _ fun ds vs F1 H1 ps g1 r1 hv => ?_
  refine hr ds ps F1 H1 vs g1.fh hv Q fun d v F2 H2 p g2 hd => ?_
  exact q d v F2 H2 p (g1.trans (g2.weak fun _ h => nomatch h)) (fun a ha => (r1 a ha).gr0 g2) hd
theorem ev_cb {t : TA} {r : List V → Hp → VK → Prop} {ds : List PyData} {P : PyData → Prop} (h : Ea B t Γ ds) (hr : CallD r ds P) : EvP B (tCB r t) Γ P := evp_cb h fun _ e => e ▸ hr
theorem DrA.one {F : Hp} {vs : List V} {d : PyData} (h : DrA F vs [d]) : ∃ v, vs = [v] ∧ Dr F v d := by
  cases h with
  | cons a t => cases t; exact ⟨_, rfl, a⟩
theorem DrA.two {F : Hp} {vs : List V} {d e : PyData} (h : DrA F vs [d, e]) : ∃ v w, vs = [v, w] ∧ Dr F v d ∧ Dr F w e := by
  cases h with
  | cons a t =>
    obtain ⟨w, rfl, b⟩ := DrA.one t
    exact ⟨_, _, rfl, a, b⟩
theorem cd_abs {i : Int} : CallD (fun xs H Q => ∃ i, xs = [.int i] ∧ Q (.int (if i < 0 then -i else i)) H) [.int i] (fun x => x = .int (if i < 0 then -i else i)) := fun F H xs e h Q q => by
  obtain ⟨v, rfl, hv⟩ := h.one
  exact ⟨i, by rw [hv.int_inv], q _ _ F H rfl (Gr.refl e) (.int _)⟩
theorem cd_int {i : Int} : CallD (fun xs H Q => (∃ i, xs = [.int i] ∧ Q (.int i) H) ∨ ∃ k, xs = [.bl k] ∧ Q (.int (if k then 1 else 0)) H) [.int i] (fun x => x = .int i) := fun F H xs e h Q q => by
  obtain ⟨v, rfl, hv⟩ := h.one
  exact .inl ⟨i, by rw [hv.int_inv], q _ _ F H rfl (Gr.refl e) (.int _)⟩
theorem cd_lenL {K : PySem.W.Frag} {ds : List PyData} : CallD (fun xs H Q => ∃ p ys, xs = [.ref p] ∧ (SqL K H p ys ∨ SqT K H p ys) ∧ Q (.int ys.length) H) [.list ds] (fun x => x = .int ds.length) := fun F H xs e h Q q => by
  obtain ⟨v, rfl, hv⟩ := h.one
  obtain ⟨a, ys, rfl, ha, r⟩ := hv.lst_inv
  exact ⟨a, ys, rfl, .inl (SqL.of (e _ _ ha)), q _ _ F H rfl (Gr.refl e) (by rw [r.len]; exact .int _)⟩
theorem cd_lenT {K : PySem.W.Frag} {ds : List PyData} : CallD (fun xs H Q => ∃ p ys, xs = [.ref p] ∧ (SqL K H p ys ∨ SqT K H p ys) ∧ Q (.int ys.length) H) [.tuple ds] (fun x => x = .int ds.length) := fun F H xs e h Q q => by
  obtain ⟨v, rfl, hv⟩ := h.one
  obtain ⟨a, ys, rfl, ha, r⟩ := hv.tup_inv
  exact ⟨a, ys, rfl, .inr (SqT.of (e _ _ ha)), q _ _ F H rfl (Gr.refl e) (by rw [r.len]; exact .int _)⟩
theorem cd_sum {K : PySem.W.Frag} {ns : List Int} : CallD (rSum K) [.list (ns.map PyData.int)] (fun x => x = .int ns.sum) := fun F H xs e h Q q => by
  obtain ⟨v, rfl, hv⟩ := h.one
  obtain ⟨a, ys, rfl, ha, r⟩ := hv.lst_inv
  exact ⟨a, ns, rfl, SqL.of (by rw [← r.ints]; exact e _ _ ha), q _ _ F H rfl (Gr.refl e) (.int _)⟩
theorem cd_list {K : PySem.W.Frag} {ds : List PyData} : CallD (fun xs H Q => ∃ p ys, xs = [.ref p] ∧ (SqL K H p ys ∨ SqT K H p ys) ∧ ∀ l, H l = none → Q (.ref l) (upd H l (.lst ys))) [.list ds] (fun x => x = .list ds) := fun F H xs e h Q q => by
  obtain ⟨v, rfl, hv⟩ := h.one
  obtain ⟨a, ys, rfl, ha, r⟩ := hv.lst_inv
  refine ⟨a, ys, rfl, .inl (SqL.of (e _ _ ha)), fun l hl => ?_⟩
  have g2 : Gr [] F H _ _ := Gr.new (o := .lst ys) e hl
  exact q _ _ _ _ rfl g2 (.lst upd_same (r.mono g2.ff))
theorem cd_listT {K : PySem.W.Frag} {ds : List PyData} : CallD (fun xs H Q => ∃ p ys, xs = [.ref p] ∧ (SqL K H p ys ∨ SqT K H p ys) ∧ ∀ l, H l = none → Q (.ref l) (upd H l (.lst ys))) [.tuple ds] (fun x => x = .list ds) := fun F H xs e h Q q => by
  obtain ⟨v, rfl, hv⟩ := h.one
  obtain ⟨a, ys, rfl, ha, r⟩ := hv.tup_inv
  refine ⟨a, ys, rfl, .inr (SqT.of (e _ _ ha)), fun l hl => ?_⟩
  have g2 : Gr [] F H _ _ := Gr.new (o := .lst ys) e hl
  exact q _ _ _ _ rfl g2 (.lst upd_same (r.mono g2.ff))
theorem cd_tuple {K : PySem.W.Frag} {ds : List PyData} : CallD (fun xs H Q => ∃ p ys, xs = [.ref p] ∧ ((SqL K H p ys ∧ ∀ l, H l = none → Q (.ref l) (upd H l (.tup ys))) ∨ (SqT K H p ys ∧ Q (.ref p) H))) [.list ds] (fun x => x = .tuple ds) := fun F H xs e h Q q => by
  obtain ⟨v, rfl, hv⟩ := h.one
  obtain ⟨a, ys, rfl, ha, r⟩ := hv.lst_inv
  refine ⟨a, ys, rfl, .inl ⟨SqL.of (e _ _ ha), fun l hl => ?_⟩⟩
  have g2 : Gr [] F H _ _ := Gr.new (o := .tup ys) e hl
  exact q _ _ _ _ rfl g2 (.tup upd_same (r.mono g2.ff))
/-- sorted(ints), fewer than 64 -/
theorem cd_sorted {K : PySem.W.Frag} {ns : List Int} (h64 : ns.length < 64) : CallD (rSorted K) [.list (ns.map PyData.int)] (fun x => ∃ ms : List Int, x = .list (ms.map PyData.int) ∧ ms.Perm ns ∧ ms.Pairwise (· ≤ ·)) := fun F H xs e h Q q => by
  obtain ⟨v, rfl, hv⟩ := h.one
  obtain ⟨a, ys, rfl, ha, r⟩ := hv.lst_inv
  refine ⟨a, ns, rfl, SqL.of (by rw [← r.ints]; exact e _ _ ha), h64, fun ms p hp hs hn => ?_⟩
  have g2 : Gr [] F H _ _ := Gr.new (o := .lst (ms.map V.int)) e hn
  exact q _ _ _ _ ⟨ms, rfl, hp, hs⟩ g2 (.lst upd_same (DrA.ofInts ms))

/-! ### tests -/
theorem etp_test {te : TE} {Pe : PyData → Prop} {P : Bool → Prop} (h : EvP B te Γ Pe) (k : ∀ d, Pe d → ∃ b, d = .bool b ∧ P b) : EtP B (tTest te) Γ P := fun F H σ o Q q =>
  h F H σ o _ fun d v F1 H1 p g1 r1 hv => by
    obtain ⟨b, rfl, pb⟩ := k d p
    exact ⟨b, hv.bool_inv, q b F1 H1 pb g1 r1⟩
theorem et_test {te : TE} {b : Bool} (h : Ev B te Γ (.bool b)) : Et B (tTest te) Γ b := etp_test h fun _ e => ⟨b, e, rfl⟩
theorem etp_B {te : TE} {Pe : PyData → Prop} {P : Bool → Prop} (h : EvP B te Γ Pe) (k : ∀ d, Pe d → ∃ b, d = .bool b ∧ P b) : EtP B (tB te) Γ P := fun F H σ o Q q =>
  h F H σ o _ fun d v F1 H1 p g1 r1 hv => by
    obtain ⟨b, rfl, pb⟩ := k d p
    exact ⟨b, hv.bool_inv, q b F1 H1 pb g1 r1⟩
theorem et_B {te : TE} {b : Bool} (h : Ev B te Γ (.bool b)) : Et B (tB te) Γ b := etp_B h fun _ e => ⟨b, e, rfl⟩
theorem et_and {t u : TT} {a b : Bool} (h1 : Et B t Γ a) (h2 : a = true → Et B u Γ b) : Et B (tAnd t u) Γ (a && b) := fun F H σ o Q q =>
  h1 F H σ o _ fun c F1 H1 e g1 r1 => by
    subst e
    cases c with
    | true =>
      show u σ H1 Q
      exact h2 rfl F1 H1 σ (o.grow g1 r1) Q fun d F2 H2 e g2 r2 => q d F2 H2 (by rw [e]; rfl) (g1.trans g2) r2
    | false =>
      show Q false H1
      exact q false F1 H1 rfl g1 r1
theorem et_or {t u : TT} {a b : Bool} (h1 : Et B t Γ a) (h2 : a = false → Et B u Γ b) : Et B (tOr t u) Γ (a || b) := fun F H σ o Q q =>
  h1 F H σ o _ fun c F1 H1 e g1 r1 => by
    subst e
    cases c with
    | true =>
      show Q true H1
      exact q true F1 H1 rfl g1 r1
    | false =>
      show u σ H1 Q
      exact h2 rfl F1 H1 σ (o.grow g1 r1) Q fun d F2 H2 e g2 r2 => q d F2 H2 (by rw [e]; rfl) (g1.trans g2) r2
theorem et_not {t : TT} {a : Bool} (h1 : Et B t Γ a) : Et B (tNot t) Γ (!a) := fun F H σ o Q q => h1 F H σ o _ fun c F1 H1 e g1 r1 => q (!c) F1 H1 (by rw [e]) g1 r1
theorem ev_andV {ta tb : TE} {a b : Bool} (h1 : Ev B ta Γ (.bool a)) (h2 : a = true → Ev B tb Γ (.bool b)) : Ev B (tAndV ta tb) Γ (.bool (a && b)) := fun F H σ o Q q =>
  h1 F H σ o _ fun d v F1 H1 e g1 r1 hv => by
    subst e
    refine ⟨a, hv.bool_inv, ?_⟩
    cases a with
    | true =>
      show tb σ H1 Q
      exact h2 rfl F1 H1 σ (o.grow g1 r1) Q fun d w F2 H2 e g2 r2 hw => q d w F2 H2 e (g1.trans g2) r2 hw
    | false =>
      show Q (.bl false) H1
      exact q _ _ F1 H1 rfl g1 r1 (.bl _)
theorem ev_orV {ta tb : TE} {a b : Bool} (h1 : Ev B ta Γ (.bool a)) (h2 : a = false → Ev B tb Γ (.bool b)) : Ev B (tOrV ta tb) Γ (.bool (a || b)) := fun F H σ o Q q =>
  h1 F H σ o _ fun d v F1 H1 e g1 r1 hv => by
    subst e
    refine ⟨a, hv.bool_inv, ?_⟩
    cases a with
    | true =>
      show Q (.bl true) H1
      exact q _ _ F1 H1 rfl g1 r1 (.bl _)
    | false =>
      show tb σ H1 Q
      exact h2 rfl F1 H1 σ (o.grow g1 r1) Q fun d w F2 H2 e g2 r2 hw => q d w F2 H2 e (g1.trans g2) r2 hw
theorem ev_notV {ta : TE} {a : Bool} (h1 : Ev B ta Γ (.bool a)) : Ev B (tNotV ta) Γ (.bool (!a)) := fun F H σ o Q q =>
  h1 F H σ o _ fun d v F1 H1 e g1 r1 hv => by
    subst e
    exact ⟨a, hv.bool_inv, q _ _ F1 H1 rfl g1 r1 (.bl _)⟩
theorem evp_if {t : TT} {ta tb : TE} {Pt : Bool → Prop} {P : PyData → Prop} (h : EtP B t Γ Pt) (h1 : Pt true → EvP B ta Γ P) (h2 : Pt false → EvP B tb Γ P) : EvP B (tIf t ta tb) Γ P := fun F H σ o Q q =>
  h F H σ o _ fun c F1 H1 e g1 r1 => by
    cases c with
    | true =>
      show ta σ H1 Q
      exact h1 e F1 H1 σ (o.grow g1 r1) Q fun d w F2 H2 e g2 r2 hw => q d w F2 H2 e (g1.trans g2) r2 hw
    | false =>
      show tb σ H1 Q
      exact h2 e F1 H1 σ (o.grow g1 r1) Q fun d w F2 H2 e g2 r2 hw => q d w F2 H2 e (g1.trans g2) r2 hw
theorem ev_if {t : TT} {ta tb : TE} {b : Bool} {d e : PyData} (h : Et B t Γ b) (h1 : b = true → Ev B ta Γ d) (h2 : b = false → Ev B tb Γ e) : Ev B (tIf t ta tb) Γ (if b = true then d else e) :=
  evp_if h (fun z => by subst z; exact h1 rfl) (fun z => by subst z; exact h2 rfl)
/-- a < b < c -/
theorem ev_chain {r r' : R2} {ta tb tc : TE} {da db dc : PyData} {a b : Bool} (ha : Ev B ta Γ da) (hb : Ev B tb Γ db) (h1 : OpD r da db (fun z => z = .bool a)) (hc : a = true → Ev B tc Γ dc) (h2 : OpD r' db dc (fun z => z = .bool b)) :
    Ev B (tChain r r' ta tb tc) Γ (.bool (a && b)) := fun F H σ o Q q => by
  refine ha F H σ o _ fun d1 x F1 H1 e1 g1 r1 hx => ?_
  refine hb F1 H1 σ (o.grow g1 r1) _ fun d2 y F2 H2 e2 g2 r2 hy => ?_
  subst e1 e2
  refine h1 F2 H2 x y g2.fh (hx.mono g2.ff) hy _ fun d3 z F3 H3 e3 g3 hz => ?_
  subst e3
  have r3 : ∀ a ∈ B.A, RowOk B.K F3 H3 a := fun a ha => (r2 a ha).gr0 g3
  have g3' := g3.weak (B := B.A) fun _ h => nomatch h
  have G3 := (g1.trans g2).trans g3'
  refine ⟨a, hz.bool_inv, ?_⟩
  cases a with
  | true =>
    show tc σ H3 _
    refine hc rfl F3 H3 σ (o.grow G3 r3) _ fun d4 w F4 H4 e4 g4 r4 hw => ?_
    subst e4
    refine h2 F4 H4 y w g4.fh ((hy.mono g3.ff).mono g4.ff) hw Q fun d5 u F5 H5 e5 g5 hu => ?_
    exact q d5 u F5 H5 e5 ((G3.trans g4).trans (g5.weak fun _ h => nomatch h)) (fun a ha => (r4 a ha).gr0 g5) hu
  | false =>
    show Q (.bl false) H3
    exact q _ _ F3 H3 rfl G3 r3 (.bl _)

/-! ### isinstance -/
def tyN : PyData → String
  | .none => "NoneType"
  | .bool _ => "bool"
  | .int _ => "int"
  | .str _ => "str"
  | .list _ => "list"
  | .tuple _ => "tuple"
  | .dict _ => "dict"
theorem dr_ty {K : PySem.W.Frag} {F H : Hp} {v : V} {d : PyData} (e : Same F H) (h : Dr F v d) : TyX K H v (.type (tyN d)) := by
  cases h with
  | non => exact .base .non
  | bl b => exact .base (.bl b)
  | int i => exact .base (.int i)
  | lst h a => exact .base (.lst (e _ _ h))
  | tup h a => exact .base (.tup (e _ _ h))
  | dct h a => exact .base (.dK (e _ _ h))
theorem ev_isi {K : PySem.W.Frag} {ta : TE} {d : PyData} {T : String} {b : Bool} (h : Ev B ta Γ d) (k : kitB (tyN d) T = some b) : Ev B (tCB (rIsi K) (tCons ta (tCons (tC (.ty T)) tNil))) Γ (.bool b) := fun F H σ o Q q => by
  refine h F H σ o _ fun d1 v F1 H1 e g1 r1 hv => ?_
  subst e
  exact ⟨v, .ty T, _, _, b, rfl, .ty T, dr_ty g1.fh hv, kit_ty k, q _ _ F1 H1 rfl g1 r1 (.bl b)⟩
/-- isinstance(x, (T1, T2)) -/
theorem ev_isi2 {K : PySem.W.Frag} {ta : TE} {d : PyData} {T1 T2 : String} {a b c : Bool} (h : Ev B ta Γ d) (k1 : kitB (tyN d) T1 = some a) (k2 : kitB (tyN d) T2 = some b) (hc : (a || b) = c) :
    Ev B (tCB (rIsiT K) (tCons ta (tCons (tTup (tCons (tC (.ty T1)) (tCons (tC (.ty T2)) tNil))) tNil))) Γ (.bool c) := fun F H σ o Q q => by
  refine h F H σ o _ fun d1 v F1 H1 e g1 r1 hv => ?_
  subst e
  refine ⟨by show 2 ≤ sizeLine; decide, fun p hp => ?_⟩
  have g2 : Gr [] F1 H1 F1 (upd H1 p (.tup [.ty T1, .ty T2])) := Gr.own g1.fh hp
  refine ⟨v, p, [.ty T1, .ty T2], _, [.type T1, .type T2], c, rfl, upd_same, .cons (.ty T1) (.cons (.ty T2) .nil), dr_ty g2.fh hv, ?_, ?_⟩
  · refine kitAny_cons (kit_ty k1) (fun ea => kitAny_cons (kit_ty k2) (fun eb => ?_) fun eb => ?_) fun ea => ?_
    · rw [← hc, ea, eb]
      exact kitAny_nil
    · rw [← hc, ea, eb]
      rfl
    · rw [← hc, ea]
      rfl
  · exact q _ _ F1 _ rfl (g1.trans (g2.weak fun _ h => nomatch h)) (fun a ha => (r1 a ha).gr0 g2) (.bl c)
end Dl
set_option Elab.async false
set_option linter.all false
set_option maxRecDepth 100000
set_option maxHeartbeats 1000000
/-! Data layer 3: slices, sums of lists and tuples, dicts read, comprehensions. -/
namespace Dl
open PySem PySem.Spec PyProof.Rows L2
variable {B : Bs} {Γ : List Sk}

/-! ### slices, sums -/
def EoP (B : Bs) (t : TO) (Γ : List Sk) (o : Option Int) : Prop := ∀ (F H : Hp) (σ : L2.St), Own B F H σ Γ → ∀ Q : Option Int → Hp → Prop,
  (∀ (F' H' : Hp), Gr B.A F H F' H' → (∀ a ∈ B.A, RowOk B.K F' H' a) → Q o H') → t σ H Q
theorem eo_no : EoP B tNoPart Γ none := fun F H σ o Q q => q F H (Gr.refl o.fh) o.rows
theorem eo_part {t : TE} {i : Int} (h : Ev B t Γ (.int i)) : EoP B (tPart t) Γ (some i) := fun F H σ o Q q => h F H σ o _ fun d v F1 H1 e g1 r1 hv => by
  subst e
  exact ⟨i, hv.int_inv, q F1 H1 g1 r1⟩
def cutD (xs : List PyData) (lo hi : Option Int) : List PyData := (xs.drop (HT.sIx xs.length 0 lo)).take (HT.sIx xs.length xs.length hi - HT.sIx xs.length 0 lo)
theorem cut_dr {F : Hp} {xs : List V} {ds : List PyData} (h : DrA F xs ds) (lo hi : Option Int) : DrA F (cutV xs lo hi) (cutD ds lo hi) := by
  unfold cutV cutD
  rw [h.len]
  exact DrA.take _ (DrA.drop _ h)
theorem cutD_whole {ds : List PyData} {lo hi : Option Int} (h : HT.sIx ds.length 0 lo = 0 ∧ HT.sIx ds.length ds.length hi = ds.length) : cutD ds lo hi = ds := by
  unfold cutD
  rw [h.1, h.2]
  simp
theorem ev_sliceT {K : PySem.W.Frag} {te : TE} {tl th : TO} {ds : List PyData} {lo hi : Option Int} (he : Ev B te Γ (.tuple ds)) (hl : EoP B tl Γ lo) (hh : EoP B th Γ hi) : Ev B (tSl (rSlA K) te tl th) Γ (.tuple (cutD ds lo hi)) := fun F H σ o Q q => by
  refine he F H σ o _ fun d v F1 H1 e g1 r1 hv => ?_
  subst e
  refine hl F1 H1 σ (o.grow g1 r1) _ fun F2 H2 g2 r2 => ?_
  have G2 := g1.trans g2
  refine hh F2 H2 σ (o.grow G2 r2) _ fun F3 H3 g3 r3 => ?_
  have G3 := G2.trans g3
  obtain ⟨a, xs, rfl, ha, r⟩ := ((hv.mono g2.ff).mono g3.ff).tup_inv
  refine ⟨a, xs, rfl, SqT.of (g3.fh _ _ ha), fun hw => ?_, fun hw p np => ?_⟩
  · rw [r.len] at hw
    rw [cutD_whole hw] at q
    exact q _ _ F3 H3 rfl G3 r3 (.tup ha r)
  · have g4 : Gr [] F3 H3 _ _ := Gr.new (o := .tup (cutV xs lo hi)) g3.fh np
    exact q _ _ _ _ rfl (G3.trans (g4.weak fun _ h => nomatch h)) (fun a ha => (r3 a ha).gr0 g4) (.tup upd_same ((cut_dr r lo hi).mono g4.ff))
theorem opd_catT {K : PySem.W.Frag} {ds es : List PyData} (hz : ds.length + es.length ≤ 100000) : OpD (rCatA K) (.tuple ds) (.tuple es) (fun z => z = .tuple (ds ++ es)) := fun F H x y e hx hy Q q => by
  obtain ⟨a, xs, rfl, ha, ra⟩ := hx.tup_inv
  obtain ⟨b, ys, rfl, hb, rb⟩ := hy.tup_inv
  refine ⟨a, b, xs, ys, rfl, rfl, SqT.of (e _ _ ha), SqT.of (e _ _ hb), ?_, fun h0 => ?_, fun h0 h1 => ?_, fun h0 h1 p np => ?_⟩
  · rw [ra.len, rb.len, sizeLine_eq]
    omega
  · have e0 : ds = [] := by
      have := ra.len
      rw [h0] at this
      exact List.length_eq_zero_iff.mp this.symm
    exact q _ _ F H rfl (Gr.refl e) (by rw [e0]; exact .tup hb rb)
  · have e0 : es = [] := by
      have := rb.len
      rw [h1] at this
      exact List.length_eq_zero_iff.mp this.symm
    exact q _ _ F H rfl (Gr.refl e) (by rw [e0, List.append_nil]; exact .tup ha ra)
  · have g4 : Gr [] F H _ _ := Gr.new (o := .tup (xs ++ ys)) e np
    exact q _ _ _ _ rfl g4 (.tup upd_same ((ra.append rb).mono g4.ff))
theorem opd_cat {ds es : List PyData} (hz : ds.length + es.length ≤ 100000) : OpD rCat (.list ds) (.list es) (fun z => z = .list (ds ++ es)) := fun F H x y e hx hy Q q => by
  obtain ⟨a, xs, rfl, ha, ra⟩ := hx.lst_inv
  obtain ⟨b, ys, rfl, hb, rb⟩ := hy.lst_inv
  refine ⟨a, b, xs, ys, rfl, rfl, e _ _ ha, e _ _ hb, ?_, fun p np => ?_⟩
  · rw [ra.len, rb.len, sizeLine_eq]
    omega
  · have g4 : Gr [] F H _ _ := Gr.new (o := .lst (xs ++ ys)) e np
    exact q _ _ _ _ rfl g4 (.lst upd_same ((ra.append rb).mono g4.ff))
theorem DrA.rep {F : Hp} {xs : List V} {ds : List PyData} (h : DrA F xs ds) : ∀ n : Nat, DrA F (List.replicate n xs).flatten (List.replicate n ds).flatten
  | 0 => .nil
  | n + 1 => by
    rw [List.replicate_succ, List.replicate_succ, List.flatten_cons, List.flatten_cons]
    exact h.append (DrA.rep h n)
theorem opd_rep {ds : List PyData} {k : Int} (h1 : k ≤ 100000) (h0 : 0 ≤ k) (h2 : ds.length * k.toNat ≤ 100000) : OpD rRep (.list ds) (.int k) (fun z => z = .list (List.replicate k.toNat ds).flatten) := fun F H x y e hx hy Q q => by
  obtain ⟨a, xs, rfl, ha, ra⟩ := hx.lst_inv
  obtain rfl := hy.int_inv
  refine ⟨a, k, xs, rfl, rfl, e _ _ ha, by omega, by omega, ?_, fun p np => ?_⟩
  · rw [ra.len, sizeLine_eq]
    omega
  · have g4 : Gr [] F H _ _ := Gr.new (o := .lst (List.replicate k.toNat xs).flatten) e np
    exact q _ _ _ _ rfl g4 (.lst upd_same ((ra.rep _).mono g4.ff))
theorem ev_revL {K : PySem.W.Frag} {te : TE} {ds : List PyData} (he : Ev B te Γ (.list ds)) : Ev B (tRevL K te) Γ (.list ds.reverse) := fun F H σ o Q q => by
  refine he F H σ o _ fun d v F1 H1 e g1 r1 hv => ?_
  subst e
  obtain ⟨a, xs, rfl, ha, r⟩ := hv.lst_inv
  refine ⟨a, xs, rfl, SqL.of (g1.fh _ _ ha), fun p np => ?_⟩
  have g4 : Gr [] F1 H1 _ _ := Gr.new (o := .lst xs.reverse) g1.fh np
  exact q _ _ _ _ rfl (g1.trans (g4.weak fun _ h => nomatch h)) (fun a ha => (r1 a ha).gr0 g4) (.lst upd_same (r.reverse.mono g4.ff))

/-! ### a look at one's own list or dict, where what is told is a number, a truth, None -/
def scalD : PyData → Bool
  | .none => true
  | .bool _ => true
  | .int _ => true
  | _ => false
theorem scal_any {F F' : Hp} {v : V} {d : PyData} (h : Dr F v d) (s : scalD d = true) : Dr F' v d := by
  cases h with
  | non => exact .non
  | bl b => exact .bl b
  | int i => exact .int i
  | lst h a => cases s
  | tup h a => cases s
  | dct h a => cases s
def adD (kvs : List (Int × PyData)) : PyData := .dict (kvs.map fun p => (.int p.1, p.2))
theorem KvR.drk {F : Hp} : ∀ {ws : List (Key × V)} {kvs : List (Int × PyData)}, KvR kI F ws kvs → DrK F ws (kvs.map fun p => (.int p.1, p.2))
  | _, _, .nil => .nil
  | _, _, .cons h t => .cons h (KvR.drk t)
theorem DrK.kv {F : Hp} : ∀ {ws : List (Key × V)} {kvs : List (Int × PyData)}, DrK F ws (kvs.map fun p => (.int p.1, p.2)) → KvR kI F ws kvs
  | _, [], h => by
    cases h
    exact .nil
  | _, p :: kvs, h => by
    rw [List.map_cons] at h
    cases h with
    | cons a t => exact .cons a (DrK.kv t)
theorem Dr.dct_inv {F : Hp} {v : V} {kvs : List (Int × PyData)} (h : Dr F v (adD kvs)) : ∃ a ws, v = .ref a ∧ F a = some (.dK ws) ∧ KvR kI F ws kvs := by
  unfold adD at h
  cases h with
  | dct h a => exact ⟨_, _, rfl, h, a.kv⟩
/-- an own list, dict as the data it is -/
def Sk.froz : Sk → Option PyData
  | .ml ds => some (.list ds)
  | .dk kvs => some (adD kvs)
  | _ => none
theorem sk_dr {F H : Hp} {σ : L2.St} {i : Nat} {s : Sk} {d : PyData} (o : Own B F H σ Γ) (hi : Γ[i]? = some s) (hs : s.froz = some d) :
    ∃ l u, slot σ i = some (.ref l) ∧ l ∉ B.A ∧ B.H0 l = none ∧ F l = none ∧ H l = some u ∧ Dr (upd F l u) (.ref l) d ∧ s.mut = true := by
  have up : ∀ {l : Addr} {u : HO}, F l = none → Same F (upd F l u) := fun {l u} hf b x hb => by
    rw [upd_ne (fun z => by rw [z, hf] at hb; cases hb)]
    exact hb
  cases s with
  | ml ds =>
    cases hs
    obtain ⟨l, xs, e, ha, h0, hf, hl, r⟩ := o.at_ i _ hi
    exact ⟨l, _, e, ha, h0, hf, hl, .lst upd_same (r.mono (up hf)), rfl⟩
  | dk kvs =>
    cases hs
    obtain ⟨l, ws, e, ha, h0, hf, hl, r⟩ := o.at_ i _ hi
    exact ⟨l, _, e, ha, h0, hf, hl, .dct upd_same (r.mono (up hf)).drk, rfl⟩
  | un => cases hs
  | im d => cases hs
  | dt kvs => cases hs
  | dn kvs => cases hs
  | row => cases hs
  | scr => cases hs
theorem set_self_st {σ : L2.St} {i : Nat} {x : V} (h : slot σ i = some x) : σ.set i (some x) = σ := by
  have h1 := slot_eq h
  obtain ⟨hi, e⟩ := List.getElem?_eq_some_iff.mp h1
  rw [← e]
  exact List.set_getElem_self ..
/-- an own list or dict is kept as it is from here on -/
theorem Own.freeze {F H : Hp} {σ : L2.St} {i : Nat} {s : Sk} {d : PyData} (o : Own B F H σ Γ) (hi : Γ[i]? = some s) (hs : s.froz = some d) : ∃ F', Same F F' ∧ (∀ b, F b = none → H b = none → F' b = none) ∧ Own B F' H σ (Γ.set i (.im d)) := by
  obtain ⟨l, u, e, ha, h0, hf, hl, r, m⟩ := sk_dr o hi hs
  have s1 : Same F (upd F l u) := fun b x hb => by
    rw [upd_ne (fun z => by rw [z, hf] at hb; cases hb)]
    exact hb
  have s2 : Same (upd F l u) H := fun b x hb => by
    by_cases z : b = l
    · rw [z, upd_same] at hb
      cases hb
      rw [z]
      exact hl
    · rw [upd_ne z] at hb
      exact o.fh b x hb
  have ne : ∀ b, b ≠ l → F b = none → (upd F l u) b = none := fun b hb n => by rw [upd_ne hb]; exact n
  refine ⟨upd F l u, s1, fun b n1 n2 => ne b (fun z => by rw [z, hl] at n2; cases n2) n1, ⟨⟨fun b x hb => s1 b x (o.gr.ff b x hb), s2, o.gr.hh, fun b hb hn => ?_, o.gr.tt⟩, by simpa using o.len, fun j t hj => ?_, fun j k a b y nejk hj hk ms mt => ?_, fun a haA => ?_⟩⟩
  · exact ne b (fun z => hb (by rw [z]; exact h0)) (o.gr.nf b hb hn)
  · by_cases z : i = j
    · subst z
      rw [List.getElem?_set_self (List.getElem?_eq_some_iff.mp hi).1] at hj
      cases hj
      exact ⟨_, e, r⟩
    · rw [List.getElem?_set_ne z] at hj
      have h2 := o.at_ j t hj
      have nl : t.mut = true → ∀ l', slot σ j = some (.ref l') → l' ≠ l := fun mt l' h z' => o.sep i j s t _ z hi hj m mt e (by rw [h, z'])
      cases t with
      | un => trivial
      | im d => obtain ⟨x, e1, r1⟩ := h2; exact ⟨x, e1, r1.mono s1⟩
      | ml ds => obtain ⟨l', xs, e1, a1, a2, a3, a4, a5⟩ := h2; exact ⟨l', xs, e1, a1, a2, ne _ (nl rfl l' e1) a3, a4, a5.mono s1⟩
      | dk ds => obtain ⟨l', xs, e1, a1, a2, a3, a4, a5⟩ := h2; exact ⟨l', xs, e1, a1, a2, ne _ (nl rfl l' e1) a3, a4, a5.mono s1⟩
      | dt ds => obtain ⟨l', xs, e1, a1, a2, a3, a4, a5⟩ := h2; exact ⟨l', xs, e1, a1, a2, ne _ (nl rfl l' e1) a3, a4, a5.mono s1⟩
      | dn ds => obtain ⟨l', xs, e1, a1, a2, a3, a4, a5⟩ := h2; exact ⟨l', xs, e1, a1, a2, ne _ (nl rfl l' e1) a3, a4, a5.mono s1⟩
      | row => exact h2
      | scr => obtain ⟨S, ns, e1, q⟩ := h2; exact ⟨S, ns, e1, s1.seq q⟩
  · have hij : i ≠ j := fun z => by
      subst z
      rw [List.getElem?_set_self (List.getElem?_eq_some_iff.mp hi).1] at hj
      cases hj
      cases ms
    have hik : i ≠ k := fun z => by
      subst z
      rw [List.getElem?_set_self (List.getElem?_eq_some_iff.mp hi).1] at hk
      cases hk
      cases mt
    rw [List.getElem?_set_ne hij] at hj
    rw [List.getElem?_set_ne hik] at hk
    exact o.sep j k a b y nejk hj hk ms mt
  · obtain ⟨f, S, ns, p, q, z, h, sq, b⟩ := o.rows a haA
    exact ⟨ne a (fun y => ha (y ▸ haA)) f, S, ns, p, q, z, h, s1.seq sq, b⟩
/-- back to the known part without what was only looked at: a look changes nothing -/
theorem Gr.unlook {A : List Addr} {F H F' H' Fp : Hp} (s : Same F Fp) (n : ∀ b, F b = none → H b = none → Fp b = none) (fh : Same F H) (g : Gr A Fp H F' H') : Gr A F H (grow F H H') H' where
  ff := fun b o hb => by unfold grow; rw [fh b o hb]; exact hb
  fh := fun b o hb => by
    unfold grow at hb
    cases q : H b with
    | none => rw [q] at hb; exact hb
    | some u => rw [q] at hb; exact g.fh b o (g.ff b o (s b o hb))
  hh := g.hh
  nf := fun b hb hn => by
    unfold grow
    cases q : H b with
    | none => exact absurd q hb
    | some u => exact hn
  tt := g.tt
theorem evp_peek {te : TE} {i : Nat} {s : Sk} {d0 : PyData} {P : PyData → Prop} (hA : B.A = []) (hi : Γ[i]? = some s) (hs : s.froz = some d0) (h : EvP B te (Γ.set i (.im d0)) P) (sc : ∀ d, P d → scalD d = true) : EvP B te Γ P := fun F H σ o Q q => by
  obtain ⟨Fp, s1, n1, o1⟩ := o.freeze hi hs
  refine h Fp H σ o1 Q fun d v F' H' p g r hv => ?_
  exact q d v _ H' p (Gr.unlook s1 n1 o.fh g) (fun a ha => by rw [hA] at ha; cases ha) (scal_any hv (sc d p))
theorem etp_peek {t : TT} {i : Nat} {s : Sk} {d0 : PyData} {P : Bool → Prop} (hA : B.A = []) (hi : Γ[i]? = some s) (hs : s.froz = some d0) (h : EtP B t (Γ.set i (.im d0)) P) : EtP B t Γ P := fun F H σ o Q q => by
  obtain ⟨Fp, s1, n1, o1⟩ := o.freeze hi hs
  refine h Fp H σ o1 Q fun b F' H' p g r => ?_
  exact q b _ H' p (Gr.unlook s1 n1 o.fh g) (fun a ha => by rw [hA] at ha; cases ha)

/-! ### dicts read -/
def aget {κ : Type} [DecidableEq κ] (kvs : List (κ × PyData)) (k : κ) : Option PyData := (kvs.find? fun p => decide (p.1 = k)).map (·.2)
def aput {κ : Type} [DecidableEq κ] (kvs : List (κ × PyData)) (k : κ) (d : PyData) : List (κ × PyData) :=
  if (aget kvs k).isSome = true then kvs.map fun p => if p.1 = k then (k, d) else p else kvs ++ [(k, d)]
theorem kv_get {κ κ' : Type} [DecidableEq κ] [DecidableEq κ'] {f : κ' → κ} (inj : ∀ a b, f a = f b → a = b) {F : Hp} {k : κ'} : ∀ {ws : List (κ × V)} {kvs : List (κ' × PyData)}, KvR f F ws kvs →
    (∀ d, aget kvs k = some d → ∃ v, valV ws (f k) = some v ∧ Dr F v d) ∧ (aget kvs k = none → valV ws (f k) = none)
  | _, _, .nil => ⟨fun d h => by simp [aget] at h, fun _ => rfl⟩
  | _, _, .cons (k := k0) (v := v) (d := d0) (ws := ws) (kvs := kvs) h t => by
    obtain ⟨ih1, ih2⟩ := kv_get inj (k := k) t
    by_cases e : k0 = k
    · have e1 : aget ((k0, d0) :: kvs) k = some d0 := by simp [aget, List.find?_cons, e]
      have e2 : valV ((f k0, v) :: ws) (f k) = some v := by simp [valV, List.find?_cons, e]
      rw [e1, e2]
      exact ⟨fun d z => ⟨v, rfl, by cases z; exact h⟩, fun z => by cases z⟩
    · have e' : ¬ f k0 = f k := fun z => e (inj _ _ z)
      have e1 : aget ((k0, d0) :: kvs) k = aget kvs k := by simp [aget, List.find?_cons, e]
      have e2 : valV ((f k0, v) :: ws) (f k) = valV ws (f k) := by simp [valV, List.find?_cons, e']
      rw [e1, e2]
      exact ⟨ih1, ih2⟩
theorem kv_some {κ κ' : Type} [DecidableEq κ] [DecidableEq κ'] {f : κ' → κ} (inj : ∀ a b, f a = f b → a = b) {F : Hp} {ws : List (κ × V)} {kvs : List (κ' × PyData)} (h : KvR f F ws kvs) (k : κ') : (valV ws (f k)).isSome = (aget kvs k).isSome := by
  obtain ⟨h1, h2⟩ := kv_get inj (k := k) h
  cases q : aget kvs k with
  | none => rw [h2 q]; rfl
  | some d =>
    obtain ⟨v, e, _⟩ := h1 d q
    rw [e]
    rfl
theorem kv_any {κ : Type} [DecidableEq κ] (ws : List (κ × V)) (k : κ) : (ws.any fun kv => decide (kv.1 = k)) = (valV ws k).isSome := by
  induction ws with
  | nil => rfl
  | cons p ws ih =>
    by_cases e : p.1 = k
    · simp [valV, List.find?_cons, e]
    · have : valV (p :: ws) k = valV ws k := by simp [valV, List.find?_cons, e]
      rw [this, ← ih, List.any_cons, decide_eq_false e, Bool.false_or]
theorem kv_map {κ κ' : Type} [DecidableEq κ] [DecidableEq κ'] {f : κ' → κ} (inj : ∀ a b, f a = f b → a = b) {F : Hp} {k : κ'} {v : V} {d : PyData} (hv : Dr F v d) : ∀ {ws : List (κ × V)} {kvs : List (κ' × PyData)}, KvR f F ws kvs →
    KvR f F (ws.map fun kv => if kv.1 = f k then (kv.1, v) else kv) (kvs.map fun p => if p.1 = k then (k, d) else p)
  | _, _, .nil => .nil
  | _, _, .cons (k := k0) h t => by
    rw [List.map_cons, List.map_cons]
    by_cases e : k0 = k
    · rw [if_pos (by rw [e]), if_pos e]
      have ih := kv_map inj (k := k) hv t
      subst e
      exact .cons hv ih
    · rw [if_neg (fun z => e (inj _ _ z)), if_neg e]
      exact .cons h (kv_map inj hv t)
theorem kv_snoc {κ κ' : Type} {f : κ' → κ} {F : Hp} {k : κ'} {v : V} {d : PyData} (hv : Dr F v d) : ∀ {ws : List (κ × V)} {kvs : List (κ' × PyData)}, KvR f F ws kvs → KvR f F (ws ++ [(f k, v)]) (kvs ++ [(k, d)])
  | _, _, .nil => .cons hv .nil
  | _, _, .cons h t => .cons h (kv_snoc hv t)
theorem kv_put {κ κ' : Type} [DecidableEq κ] [DecidableEq κ'] {f : κ' → κ} (inj : ∀ a b, f a = f b → a = b) {F : Hp} {ws : List (κ × V)} {kvs : List (κ' × PyData)} (h : KvR f F ws kvs) {k : κ'} {v : V} {d : PyData} (hv : Dr F v d) : KvR f F (putK ws (f k) v) (aput kvs k d) := by
  unfold putK aput
  rw [kv_any, kv_some inj h k]
  by_cases e : (aget kvs k).isSome = true
  · rw [if_pos e, if_pos e]
    exact kv_map inj hv h
  · rw [if_neg e, if_neg e]
    exact kv_snoc hv h
theorem kI_inj (a b : Int) (h : kI a = kI b) : a = b := Sum.inl.inj h
theorem kT_inj : ∀ (a b : List Int), kT a = kT b → a = b
  | [], [], _ => rfl
  | [], _ :: _, h => by cases h
  | _ :: _, [], h => by cases h
  | a :: as, b :: bs, h => by
    injection h with h1 h2
    rw [Sum.inl.inj h1, kT_inj as bs h2]
/-- a key that is a tuple of ints -/
def tI (k : List Int) : PyData := .tuple (k.map PyData.int)
theorem dr_tI {F : Hp} {v : V} {k : List Int} (h : Dr F v (tI k)) : ∃ b, v = .ref b ∧ F b = some (.tup ((kT k).map kV)) := by
  obtain ⟨a, xs, e, ha, r⟩ := h.tup_inv
  refine ⟨a, e, ?_⟩
  rw [ha, r.ints]
  simp [kT, kV, List.map_map, Function.comp_def]

/-- how the dict at slot i answers -/
def DSlot (Γ : List Sk) (i : Nat) (kd : PyData) (o : Option PyData) : Prop :=
  (∃ kvs z, Γ[i]? = some (.dk kvs) ∧ kd = .int z ∧ o = aget kvs z) ∨ (∃ kvs k, Γ[i]? = some (.dt kvs) ∧ kd = tI k ∧ o = aget kvs k) ∨ (∃ kvs z, Γ[i]? = some (.im (adD kvs)) ∧ kd = .int z ∧ o = aget kvs z)
theorem dslot_get {F H : Hp} {σ : L2.St} {i : Nat} {kd : PyData} {od : Option PyData} {y : V} (o : Own B F H σ Γ) (h : DSlot Γ i kd od) (hy : Dr F y kd) :
    ∃ a r, slot σ i = some (.ref a) ∧ IsD H a ∧ DGet H a y r ∧ (∀ d, od = some d → ∃ v, r = some v ∧ Dr F v d) ∧ (od = none → r = none) ∧ r.isSome = od.isSome := by
  rcases h with ⟨kvs, z, hi, rfl, rfl⟩ | ⟨kvs, k, hi, rfl, rfl⟩ | ⟨kvs, z, hi, rfl, rfl⟩
  · obtain ⟨l, ws, e, ha, h0, hf, hl, r⟩ := o.at_ i _ hi
    obtain rfl := hy.int_inv
    obtain ⟨k1, k2⟩ := kv_get kI_inj (k := z) r
    exact ⟨l, valV ws (kI z), e, .inl ⟨ws, .inl hl⟩, DGet.k (k := kI z) hl, k1, k2, kv_some kI_inj r z⟩
  · obtain ⟨l, ws, e, ha, h0, hf, hl, r⟩ := o.at_ i _ hi
    obtain ⟨b, rfl, hb⟩ := dr_tI hy
    obtain ⟨k1, k2⟩ := kv_get kT_inj (k := k) r
    exact ⟨l, valV ws (kT k), e, .inr ⟨ws, .inl hl⟩, DGet.t (k := kT k) hl (o.fh _ _ hb), k1, k2, kv_some kT_inj r k⟩
  · obtain ⟨x, e, hd⟩ := o.at_ i _ hi
    obtain ⟨l, ws, rfl, hl, r⟩ := hd.dct_inv
    obtain rfl := hy.int_inv
    obtain ⟨k1, k2⟩ := kv_get kI_inj (k := z) r
    exact ⟨l, valV ws (kI z), e, .inl ⟨ws, .inl (o.fh _ _ hl)⟩, DGet.k (k := kI z) (o.fh _ _ hl), k1, k2, kv_some kI_inj r z⟩
/-- d[k], it is there -/
theorem ev_dget {i : Nat} {ty : TE} {kd d : PyData} (hk : Ev B ty Γ kd) (h : DSlot Γ i kd (some d)) : Ev B (tDGet (tVar i) ty) Γ d := fun F H σ o Q q => by
  have s0 : ∃ x, σ[i]? = some (some x) := by
    rcases h with ⟨kvs, z, hi, _⟩ | ⟨kvs, k, hi, _⟩ | ⟨kvs, z, hi, _⟩
    · obtain ⟨l, ws, e, _⟩ := o.at_ i _ hi; exact ⟨_, slot_eq e⟩
    · obtain ⟨l, ws, e, _⟩ := o.at_ i _ hi; exact ⟨_, slot_eq e⟩
    · obtain ⟨l, e, _⟩ := o.at_ i _ hi; exact ⟨_, slot_eq e⟩
  obtain ⟨x, ex⟩ := s0
  refine ⟨x, ex, ?_⟩
  refine hk F H σ o _ fun kd' y F1 H1 e g1 r1 hy => ?_
  subst e
  obtain ⟨a, r, e1, _, e2, e3, _⟩ := dslot_get (o.grow g1 r1) h hy
  obtain ⟨v, rfl, hv⟩ := e3 d rfl
  rw [slot_of ex] at e1
  cases e1
  exact ⟨a, v, rfl, e2, q d v F1 H1 rfl g1 r1 hv⟩
theorem dslot_val {F H : Hp} {σ : L2.St} {i : Nat} {kd : PyData} {od : Option PyData} (o : Own B F H σ Γ) (h : DSlot Γ i kd od) : ∃ x, σ[i]? = some (some x) := by
  rcases h with ⟨kvs, z, hi, _⟩ | ⟨kvs, k, hi, _⟩ | ⟨kvs, z, hi, _⟩
  · obtain ⟨l, ws, e, _⟩ := o.at_ i _ hi; exact ⟨_, slot_eq e⟩
  · obtain ⟨l, ws, e, _⟩ := o.at_ i _ hi; exact ⟨_, slot_eq e⟩
  · obtain ⟨l, e, _⟩ := o.at_ i _ hi; exact ⟨_, slot_eq e⟩
/-- k in d, k not in d -/
theorem ev_din {i : Nat} {ty : TE} {kd : PyData} {od : Option PyData} (hk : Ev B ty Γ kd) (h : DSlot Γ i kd od) : Ev B (tDIn ty (tVar i)) Γ (.bool od.isSome) := fun F H σ o Q q => by
  refine hk F H σ o _ fun kd' y F1 H1 e g1 r1 hy => ?_
  subst e
  obtain ⟨a, r, e1, _, e2, _, _, e3⟩ := dslot_get (o.grow g1 r1) h hy
  refine ⟨_, slot_eq e1, a, r, rfl, e2, ?_⟩
  rw [e3]
  exact q _ _ F1 H1 rfl g1 r1 (.bl _)
theorem ev_dnotin {i : Nat} {ty : TE} {kd : PyData} {od : Option PyData} (hk : Ev B ty Γ kd) (h : DSlot Γ i kd od) : Ev B (tDNotIn ty (tVar i)) Γ (.bool (!od.isSome)) := fun F H σ o Q q => by
  refine hk F H σ o _ fun kd' y F1 H1 e g1 r1 hy => ?_
  subst e
  obtain ⟨a, r, e1, _, e2, _, _, e3⟩ := dslot_get (o.grow g1 r1) h hy
  refine ⟨_, slot_eq e1, a, r, rfl, e2, ?_⟩
  rw [e3]
  exact q _ _ F1 H1 rfl g1 r1 (.bl _)
/-- d.get(k, x) -/
theorem ev_dget2 {i : Nat} {ty tx : TE} {kd dx : PyData} {od : Option PyData} (hk : Ev B ty Γ kd) (hx : Ev B tx Γ dx) (h : DSlot Γ i kd od) : Ev B (tDGet2 (tVar i) ty tx) Γ (od.getD dx) := fun F H σ o Q q => by
  obtain ⟨x, ex⟩ := dslot_val o h
  refine ⟨x, ex, ?_⟩
  have ⟨a, ea, ia⟩ : ∃ a, x = .ref a ∧ IsD H a := by
    rcases h with ⟨kvs, z, hi, _⟩ | ⟨kvs, k, hi, _⟩ | ⟨kvs, z, hi, _⟩
    · obtain ⟨l, ws, e, _, _, _, hl, _⟩ := o.at_ i _ hi
      rw [slot_of ex] at e
      cases e
      exact ⟨l, rfl, .inl ⟨ws, .inl hl⟩⟩
    · obtain ⟨l, ws, e, _, _, _, hl, _⟩ := o.at_ i _ hi
      rw [slot_of ex] at e
      cases e
      exact ⟨l, rfl, .inr ⟨ws, .inl hl⟩⟩
    · obtain ⟨l, e, hd⟩ := o.at_ i _ hi
      obtain ⟨l', ws, rfl, hl, r⟩ := hd.dct_inv
      rw [slot_of ex] at e
      cases e
      exact ⟨l', rfl, .inl ⟨ws, .inl (o.fh _ _ hl)⟩⟩
  subst ea
  refine ⟨a, rfl, ia, ?_⟩
  refine hk F H σ o _ fun kd' y F1 H1 e g1 r1 hy => ?_
  subst e
  refine hx F1 H1 σ (o.grow g1 r1) _ fun dx' xv F2 H2 e g2 r2 hxv => ?_
  subst e
  have G2 := g1.trans g2
  obtain ⟨a', r, e1, _, e2, e3, e4, _⟩ := dslot_get (o.grow G2 r2) h (hy.mono g2.ff)
  rw [slot_of ex] at e1
  cases e1
  refine ⟨r, e2, ?_⟩
  cases od with
  | none =>
    rw [e4 rfl]
    exact q _ _ F2 H2 rfl G2 r2 hxv
  | some d =>
    obtain ⟨v, rfl, hv⟩ := e3 d rfl
    exact q _ _ F2 H2 rfl G2 r2 hv

/-! ### comprehensions -/
theorem wipe_at (σ : L2.St) : ∀ (vs : List Nat) (i : Nat), (wipe σ vs)[i]? = if i ∈ vs ∧ i < σ.length then some none else σ[i]?
  | [], i => by simp [wipe]
  | v :: vs, i => by
    have ih := wipe_at σ vs i
    unfold wipe
    by_cases e : v = i
    · subst e
      by_cases hl : v < σ.length
      · rw [List.getElem?_set_self (by rw [wipe_length]; exact hl), if_pos ⟨List.mem_cons_self .., hl⟩]
      · rw [List.getElem?_eq_none (by rw [List.length_set, wipe_length]; omega), if_neg (fun z => hl z.2), List.getElem?_eq_none (by omega)]
    · rw [List.getElem?_set_ne e, ih]
      have : (i ∈ v :: vs ∧ i < σ.length) ↔ (i ∈ vs ∧ i < σ.length) := by
        rw [List.mem_cons]
        constructor
        · rintro ⟨h | h, l⟩
          · exact absurd h.symm e
          · exact ⟨h, l⟩
        · rintro ⟨h, l⟩
          exact ⟨.inr h, l⟩
      simp only [this]
theorem wipe_wipe (σ : L2.St) (vs : List Nat) : wipe (wipe σ vs) vs = wipe σ vs := by
  apply List.ext_getElem?
  intro i
  rw [wipe_at, wipe_at, wipe_length]
  split <;> simp_all
theorem wipe_set (σ : L2.St) (vs : List Nat) {i : Nat} (x : Option V) (h : i ∈ vs) : wipe (σ.set i x) vs = wipe σ vs := by
  apply List.ext_getElem?
  intro j
  rw [wipe_at, wipe_at, List.length_set]
  by_cases e : i = j
  · subst e
    by_cases hl : i < σ.length
    · rw [if_pos ⟨h, hl⟩, if_pos ⟨h, hl⟩]
    · rw [if_neg (fun z => hl z.2), if_neg (fun z => hl z.2), List.getElem?_eq_none (by simpa using hl), List.getElem?_eq_none (by simpa using hl)]
  · rw [List.getElem?_set_ne e]
def wipeG (Γ : List Sk) : List Nat → List Sk
  | [] => Γ
  | v :: vs => (wipeG Γ vs).set v .un
theorem Own.unslot {F H : Hp} {σ : L2.St} {i : Nat} (o : Own B F H σ Γ) : Own B F H (σ.set i none) (Γ.set i .un) where
  gr := o.gr
  len := by simpa using o.len
  at_ := fun j t h => by
    by_cases e : i = j
    · subst e
      by_cases hi : i < Γ.length
      · rw [List.getElem?_set_self hi] at h
        cases h
        trivial
      · rw [List.getElem?_eq_none (by simpa using hi)] at h; cases h
    · rw [List.getElem?_set_ne e] at h
      rw [slot_set_ne e]
      exact o.at_ j t h
  sep := fun j k a b y ne hj hk ms mt e1 => by
    have hh : ∀ {j : Nat} {t : Sk}, (Γ.set i .un)[j]? = some t → t.mut = true → i ≠ j ∧ Γ[j]? = some t := fun {j t} h m => by
      by_cases e : i = j
      · subst e
        by_cases hi : i < Γ.length
        · rw [List.getElem?_set_self hi] at h
          cases h
          cases m
        · rw [List.getElem?_eq_none (by simpa using hi)] at h; cases h
      · rw [List.getElem?_set_ne e] at h
        exact ⟨e, h⟩
    obtain ⟨n1, h1⟩ := hh hj ms
    obtain ⟨n2, h2⟩ := hh hk mt
    rw [slot_set_ne n1] at e1
    rw [slot_set_ne n2]
    exact o.sep j k a b y ne h1 h2 ms mt e1
  rows := o.rows
theorem Own.wipe {F H : Hp} {σ : L2.St} (o : Own B F H σ Γ) : ∀ vs : List Nat, Own B F H (L2.wipe σ vs) (wipeG Γ vs)
  | [] => o
  | v :: vs => (Own.wipe o vs).unslot

/-- a comprehension's target, bound to data -/
def BnN (B : Bs) (g : TG) (d : PyData) (vs : List Nat) (Γ Γ2 : List Sk) : Prop := ∀ (F H : Hp) (σ : L2.St) (v : V), Own B F H σ Γ → Dr F v d → ∀ Q : L2.St → Hp → Prop, (∀ σ', L2.wipe σ' vs = L2.wipe σ vs → Own B F H σ' Γ2 → Q σ' H) → g v σ H Q
def BnNs (B : Bs) (g : TGs) (ds : List PyData) (vs : List Nat) (Γ Γ2 : List Sk) : Prop := ∀ (F H : Hp) (σ : L2.St) (xs : List V), Own B F H σ Γ → DrA F xs ds → ∀ Q : L2.St → Hp → Prop, (∀ σ', L2.wipe σ' vs = L2.wipe σ vs → Own B F H σ' Γ2 → Q σ' H) → g xs σ H Q
theorem bn_name {i : Nat} {d : PyData} {vs : List Nat} (h : i ∈ vs) : BnN B (gName i) d vs Γ (Γ.set i (.im d)) := fun F H σ v o hv Q q => q _ (wipe_set σ vs _ h) (o.setIm hv)
theorem bns_nil {vs : List Nat} : BnNs B gNil [] vs Γ Γ := fun F H σ xs o h Q q => by
  cases h
  exact ⟨rfl, q σ rfl o⟩
theorem bns_cons {t : TG} {u : TGs} {d : PyData} {ds : List PyData} {vs : List Nat} {Γ1 Γ2 : List Sk} (h1 : BnN B t d vs Γ Γ1) (h2 : BnNs B u ds vs Γ1 Γ2) : BnNs B (gCons t u) (d :: ds) vs Γ Γ2 := fun F H σ xs o h Q q => by
  cases h with
  | cons a r =>
    refine ⟨_, _, rfl, ?_⟩
    refine h1 F H σ _ o a _ fun σ1 w1 o1 => ?_
    exact h2 F H σ1 _ o1 r Q fun σ2 w2 o2 => q σ2 (w2.trans w1) o2
theorem bn_tup {K : PySem.W.Frag} {n : Nat} {u : TGs} {ds : List PyData} {vs : List Nat} {Γ2 : List Sk} (hn : ds.length = n) (h : BnNs B u ds vs Γ Γ2) : BnN B (gTup K n u) (.tuple ds) vs Γ Γ2 := fun F H σ v o hv Q q => by
  obtain ⟨a, xs, rfl, ha, r⟩ := hv.tup_inv
  exact ⟨a, xs, rfl, SqT.of (o.fh _ _ ha), by rw [r.len]; exact hn, h F H σ xs o r Q q⟩

inductive LcR (Pb : PyData → Bool → Prop) (Pe : PyData → PyData → Prop) : List PyData → List PyData → Prop
  | nil : LcR Pb Pe [] []
  | yes {d e : PyData} {ds es : List PyData} : Pb d true → Pe d e → LcR Pb Pe ds es → LcR Pb Pe (d :: ds) (e :: es)
  | no {d : PyData} {ds es : List PyData} : Pb d false → LcR Pb Pe ds es → LcR Pb Pe (d :: ds) es
section
variable {Pb : PyData → Bool → Prop} {Pe : PyData → PyData → Prop}
theorem LcR.snocY {d e : PyData} (hb : Pb d true) (he : Pe d e) : ∀ {ds es : List PyData}, LcR Pb Pe ds es → LcR Pb Pe (ds ++ [d]) (es ++ [e])
  | _, _, .nil => .yes hb he .nil
  | _, _, .yes a b t => .yes a b (LcR.snocY hb he t)
  | _, _, .no a t => .no a (LcR.snocY hb he t)
theorem LcR.snocN {d : PyData} (hb : Pb d false) : ∀ {ds es : List PyData}, LcR Pb Pe ds es → LcR Pb Pe (ds ++ [d]) es
  | _, _, .nil => .no hb .nil
  | _, _, .yes a b t => .yes a b (LcR.snocN hb t)
  | _, _, .no a t => .no a (LcR.snocN hb t)
theorem LcR.len : ∀ {ds es : List PyData}, LcR Pb Pe ds es → es.length ≤ ds.length
  | _, _, .nil => Nat.le_refl _
  | _, _, .yes _ _ t => Nat.succ_le_succ (LcR.len t)
  | _, _, .no _ t => Nat.le_succ_of_le (LcR.len t)
theorem LcR.det {f : PyData → Bool} {g : PyData → PyData} : ∀ {ds es : List PyData}, LcR Pb Pe ds es → (∀ d ∈ ds, ∀ b, Pb d b → b = f d) → (∀ d ∈ ds, f d = true → ∀ e, Pe d e → e = g d) → es = (ds.filter f).map g
  | _, _, .nil, _, _ => rfl
  | _, _, .yes (d := d) (ds := ds) a b t, h1, h2 => by
    have e1 : f d = true := (h1 d (List.mem_cons_self ..) true a).symm
    have e2 := h2 d (List.mem_cons_self ..) e1 _ b
    rw [List.filter_cons, if_pos e1, List.map_cons, e2, LcR.det t (fun x hx => h1 x (List.mem_cons_of_mem _ hx)) (fun x hx => h2 x (List.mem_cons_of_mem _ hx))]
  | _, _, .no (d := d) (ds := ds) a t, h1, h2 => by
    have e1 : f d = false := (h1 d (List.mem_cons_self ..) false a).symm
    rw [List.filter_cons, if_neg (by rw [e1]; decide)]
    exact LcR.det t (fun x hx => h1 x (List.mem_cons_of_mem _ hx)) (fun x hx => h2 x (List.mem_cons_of_mem _ hx))
end
theorem etp_yes : Et B tYes Γ true := fun F H σ o Q q => q true F H rfl (Gr.refl o.fh) o.rows

/-- what holds behind i turns of a comprehension -/
def LcS (B : Bs) (Pb : PyData → Bool → Prop) (Pe : PyData → PyData → Prop) (ds : List PyData) (F1 H1 : Hp) (D : Addr) (i : Nat) (H : Hp) : Prop :=
  ∃ F acc es, Gr B.A F1 H1 F H ∧ (∀ a ∈ B.A, RowOk B.K F H a) ∧ H D = some (.lst acc) ∧ F D = none ∧ DrA F acc es ∧ LcR Pb Pe (ds.take i) es
theorem lc_turn {Pb : PyData → Bool → Prop} {Pe : PyData → PyData → Prop} {ds : List PyData} {F1 H1 H' : Hp} {σ : L2.St} {D : Addr} {i : Nat} {d : PyData} {x : V} {g : TG} {tt : TT} {te : TE} {vs : List Nat}
    (o : Own B F1 H1 σ Γ) (hD : H1 D = none) (hz : ds.length ≤ 100000) (hi : ds[i]? = some d) (hx : ∀ F, Same F1 F → Dr F x d)
    (ht : ∃ Γ2, BnN B g d vs (wipeG Γ vs) Γ2 ∧ EtP B tt Γ2 (Pb d) ∧ (Pb d true → EvP B te Γ2 (Pe d))) (p : LcS B Pb Pe ds F1 H1 D i H') :
    g x (L2.wipe σ vs) H' fun σ2 H2 => L2.wipe σ2 vs = L2.wipe σ vs ∧ tt σ2 H2 fun b H3 =>
      if b = true then te σ2 H3 fun y H4 => ∃ acc, H4 D = some (.lst acc) ∧ acc.length < sizeLine ∧ LcS B Pb Pe ds F1 H1 D (i + 1) (upd H4 D (.lst (acc ++ [y]))) else LcS B Pb Pe ds F1 H1 D (i + 1) H3 := by
  obtain ⟨F, acc, es, g0, r0, hacc, hFD, ra, lr⟩ := p
  obtain ⟨Γ2, hb, hbt, hbe⟩ := ht
  have o' := (o.grow g0 r0).wipe vs
  have hDA : D ∉ B.A := fun z => by
    obtain ⟨_, _, _, _, _, _, h, _⟩ := o.rows D z
    rw [hD] at h
    cases h
  have tk : ds.take (i + 1) = ds.take i ++ [d] := by rw [List.take_add_one, hi]; rfl
  refine hb F H' (L2.wipe σ vs) x o' (hx F g0.ff) _ fun σ2 hw o2 => ?_
  refine ⟨hw.trans (wipe_wipe σ vs), ?_⟩
  refine hbt F H' σ2 o2 _ fun b F3 H3 pb g3 r3 => ?_
  have hD3 : H3 D = some (.lst acc) := g3.hh D _ hDA hacc
  have hF3 : F3 D = none := g3.nf D (by rw [hacc]; exact fun z => nomatch z) hFD
  have G3 := g0.trans g3
  cases b with
  | false =>
    show LcS B Pb Pe ds F1 H1 D (i + 1) H3
    refine ⟨F3, acc, es, G3, r3, hD3, hF3, ra.mono g3.ff, ?_⟩
    rw [tk]
    exact lr.snocN pb
  | true =>
    show te σ2 H3 fun y H4 => ∃ acc, H4 D = some (.lst acc) ∧ acc.length < sizeLine ∧ LcS B Pb Pe ds F1 H1 D (i + 1) (upd H4 D (.lst (acc ++ [y])))
    refine hbe pb F3 H3 σ2 (o2.grow g3 r3) _ fun e y F4 H4 pe g4 r4 hy => ?_
    have hD4 : H4 D = some (.lst acc) := g4.hh D _ hDA hD3
    have hF4 : F4 D = none := g4.nf D (by rw [hD3]; exact fun z => nomatch z) hF3
    have G4 := G3.trans g4
    refine ⟨acc, hD4, ?_, F4, acc ++ [y], es ++ [e], ?_, fun a ha => ?_, upd_same, hF4, ?_, ?_⟩
    · have h1 := ra.len
      have h2 := lr.len
      rw [List.length_take] at h2
      rw [sizeLine_eq]
      omega
    · refine ⟨G4.ff, fun b u hb => ?_, fun b u hb hu => ?_, G4.nf, fun b hb => ?_⟩
      · rw [upd_ne (fun z => by rw [z, hF4] at hb; cases hb)]
        exact G4.fh b u hb
      · rw [upd_ne (fun z => by rw [z, hD] at hu; cases hu)]
        exact G4.hh b u hb hu
      · by_cases z : b = D
        · rw [z, upd_same]
          exact fun z => nomatch z
        · rw [upd_ne z]
          exact G4.tt b hb
    · obtain ⟨f, S, ns, p, q, z, h, sq⟩ := r4 a ha
      exact ⟨f, S, ns, p, q, z, by rw [upd_ne (fun (e : a = D) => hDA (by rw [← e]; exact ha))]; exact h, sq⟩
    · exact ((ra.mono g3.ff).mono g4.ff).append (.cons hy .nil)
    · rw [tk]
      exact lr.snocY pb pe
theorem lc_start {Pb : PyData → Bool → Prop} {Pe : PyData → PyData → Prop} {ds : List PyData} {F1 H1 : Hp} {σ : L2.St} {D : Addr} (o : Own B F1 H1 σ Γ) (hD : H1 D = none) : LcS B Pb Pe ds F1 H1 D 0 (upd H1 D (.lst [])) := by
  have hF : F1 D = none := by
    cases q : F1 D with
    | none => rfl
    | some u => rw [o.fh D u q] at hD; cases hD
  have g : Gr [] F1 H1 F1 (upd H1 D (.lst [])) := Gr.own o.fh hD
  exact ⟨F1, [], [], g.weak (fun _ h => nomatch h), rows_gr0 o g, upd_same, hF, DrA.nil, (by rw [List.take_zero]; exact LcR.nil)⟩
theorem lc_end {Pb : PyData → Bool → Prop} {Pe : PyData → PyData → Prop} {ds : List PyData} {F1 H1 H' : Hp} {σ : L2.St} {D : Addr} {n : Nat} (o : Own B F1 H1 σ Γ) (hn : ds.length ≤ n) (hD : H1 D = none) (p : LcS B Pb Pe ds F1 H1 D n H') :
    ∃ F' es, Gr B.A F1 H1 F' H' ∧ (∀ a ∈ B.A, RowOk B.K F' H' a) ∧ LcR Pb Pe ds es ∧ Dr F' (.ref D) (.list es) := by
  obtain ⟨F, acc, es, g0, r0, hacc, hFD, ra, lr⟩ := p
  rw [List.take_of_length_le hn] at lr
  have hDA : ∀ a ∈ B.A, a ≠ D := fun a z y => by
    obtain ⟨_, _, _, _, _, _, h, _⟩ := o.rows a z
    rw [y, hD] at h
    cases h
  have s1 : Same F (upd F D (.lst acc)) := fun b x hb => by
    rw [upd_ne (fun z => by rw [z, hFD] at hb; cases hb)]
    exact hb
  refine ⟨upd F D (.lst acc), es, ⟨fun b u hb => s1 b u (g0.ff b u hb), fun b x hb => ?_, g0.hh, fun b hb hn => ?_, g0.tt⟩, fun a ha => ?_, lr, .lst upd_same (ra.mono s1)⟩
  · by_cases z : b = D
    · rw [z, upd_same] at hb
      cases hb
      rw [z]
      exact hacc
    · rw [upd_ne z] at hb
      exact g0.fh b x hb
  · rw [upd_ne (fun z => hb (by rw [z]; exact hD))]
    exact g0.nf b hb hn
  · obtain ⟨f, S, ns, p, q, z, h, sq, b⟩ := r0 a ha
    exact ⟨by rw [upd_ne (hDA a ha)]; exact f, S, ns, p, q, z, h, s1.seq sq, b⟩
/-- [e for x in xs if t], xs a list | a tuple | a range -/
theorem evp_lcL {K : PySem.W.Frag} {tl te : TE} {g : TG} {tt : TT} {vs : List Nat} {ds : List PyData} {Pb : PyData → Bool → Prop} {Pe : PyData → PyData → Prop} (hl : Ev B tl Γ (.list ds)) (hz : ds.length ≤ 100000)
    (ht : ∀ d ∈ ds, ∃ Γ2, BnN B g d vs (wipeG Γ vs) Γ2 ∧ EtP B tt Γ2 (Pb d) ∧ (Pb d true → EvP B te Γ2 (Pe d))) : EvP B (tLc (iList K tl) g tt te vs) Γ (fun x => ∃ es, x = .list es ∧ LcR Pb Pe ds es) := fun F H σ o Q q => by
  refine hl F H σ o _ fun d0 v F1 H1 e g1 r1 hv => ?_
  subst e
  obtain ⟨a, xs, rfl, ha, r⟩ := hv.lst_inv
  have o1 := o.grow g1 r1
  refine ⟨a, rfl, ⟨xs, SqL.of (g1.fh _ _ ha)⟩, fun D hD => ?_⟩
  refine lc_list (xs := xs) (LcS B Pb Pe ds F1 H1 D) (lc_start o1 hD) (fun i H' hi p => ?_) (fun i x H' hi p => ?_) (fun H' p => ?_)
  · obtain ⟨F2, _, _, g2, _⟩ := p
    exact SqL.of (g2.fh _ _ (g2.ff _ _ ha))
  · obtain ⟨d, hd, hx⟩ := r.getV hi
    exact lc_turn o1 hD hz hd (fun F s => hx.mono s) (ht d (List.mem_of_getElem? hd)) p
  · obtain ⟨F2, es, g2, r2, lr, hv2⟩ := lc_end o1 (by rw [r.len]; exact Nat.le_refl _) hD p
    exact q _ _ F2 H' ⟨es, rfl, lr⟩ (g1.trans g2) r2 hv2
theorem evp_lcT {K : PySem.W.Frag} {tl te : TE} {g : TG} {tt : TT} {vs : List Nat} {ds : List PyData} {Pb : PyData → Bool → Prop} {Pe : PyData → PyData → Prop} (hl : Ev B tl Γ (.tuple ds)) (hz : ds.length ≤ 100000)
    (ht : ∀ d ∈ ds, ∃ Γ2, BnN B g d vs (wipeG Γ vs) Γ2 ∧ EtP B tt Γ2 (Pb d) ∧ (Pb d true → EvP B te Γ2 (Pe d))) : EvP B (tLc (iTup K tl) g tt te vs) Γ (fun x => ∃ es, x = .list es ∧ LcR Pb Pe ds es) := fun F H σ o Q q => by
  refine hl F H σ o _ fun d0 v F1 H1 e g1 r1 hv => ?_
  subst e
  obtain ⟨a, xs, rfl, ha, r⟩ := hv.tup_inv
  have o1 := o.grow g1 r1
  refine ⟨a, rfl, ⟨xs, SqT.of (g1.fh _ _ ha)⟩, fun D hD => ?_⟩
  refine lc_tup (xs := xs) (LcS B Pb Pe ds F1 H1 D) (lc_start o1 hD) (fun i H' hi p => ?_) (fun i x H' hi p => ?_) (fun H' p => ?_)
  · obtain ⟨F2, _, _, g2, _⟩ := p
    exact SqT.of (g2.fh _ _ (g2.ff _ _ ha))
  · obtain ⟨d, hd, hx⟩ := r.getV hi
    exact lc_turn o1 hD hz hd (fun F s => hx.mono s) (ht d (List.mem_of_getElem? hd)) p
  · obtain ⟨F2, es, g2, r2, lr, hv2⟩ := lc_end o1 (by rw [r.len]; exact Nat.le_refl _) hD p
    exact q _ _ F2 H' ⟨es, rfl, lr⟩ (g1.trans g2) r2 hv2
/-- the ints lo, lo + 1, .. (n of them) as data -/
def rngD (lo : Int) (n : Nat) : List PyData := (List.range n).map fun i => .int (lo + (i : Nat))
theorem rngD_len (lo : Int) (n : Nat) : (rngD lo n).length = n := by simp [rngD]
theorem rngD_get {lo : Int} {n i : Nat} (h : i < n) : (rngD lo n)[i]? = some (.int (lo + (i : Nat))) := by
  unfold rngD
  rw [List.getElem?_map, List.getElem?_range h]
  rfl
theorem evp_lcR1 {ta : TA} {te : TE} {g : TG} {tt : TT} {vs : List Nat} {n : Int} {Pb : PyData → Bool → Prop} {Pe : PyData → PyData → Prop} (hl : Ea B ta Γ [.int n]) (hz : -100000 ≤ n ∧ n ≤ 100000)
    (ht : ∀ i : Nat, (i : Int) < n → ∃ Γ2, BnN B g (.int (i : Int)) vs (wipeG Γ vs) Γ2 ∧ EtP B tt Γ2 (Pb (.int i)) ∧ (Pb (.int i) true → EvP B te Γ2 (Pe (.int i)))) :
    EvP B (tLc (iRng1 ta) g tt te vs) Γ (fun x => ∃ es, x = .list es ∧ LcR Pb Pe (rngD 0 n.toNat) es) := fun F H σ o Q q => by
  refine hl F H σ o _ fun d0 v F1 H1 e g1 r1 hv => ?_
  subst e
  obtain ⟨w, rfl, hw⟩ := hv.one
  obtain rfl := hw.int_inv
  have o1 := o.grow g1 r1
  refine ⟨n, rfl, by omega, by omega, fun D hD => ?_⟩
  refine lc_range (lo := 0) (n := n.toNat) (LcS B Pb Pe (rngD 0 n.toNat) F1 H1 D) (lc_start o1 hD) (fun i H' hi p => ?_) (fun H' p => ?_)
  · have e0 : (0 : Int) + (i : Int) = (i : Int) := Int.zero_add _
    refine lc_turn o1 hD (by rw [rngD_len]; omega) (rngD_get hi) (fun F s => .int _) ?_ p
    rw [e0]
    exact ht i (by omega)
  · obtain ⟨F2, es, g2, r2, lr, hv2⟩ := lc_end o1 (by rw [rngD_len]; exact Nat.le_refl _) hD p
    exact q _ _ F2 H' ⟨es, rfl, lr⟩ (g1.trans g2) r2 hv2
theorem evp_lcR2 {ta : TA} {te : TE} {g : TG} {tt : TT} {vs : List Nat} {lo n : Int} {Pb : PyData → Bool → Prop} {Pe : PyData → PyData → Prop} (hl : Ea B ta Γ [.int lo, .int n]) (hz : -100000 ≤ lo ∧ lo ≤ 100000 ∧ -100000 ≤ n ∧ n ≤ 100000) (hs : n - lo ≤ 100000)
    (ht : ∀ i : Nat, lo + (i : Int) < n → ∃ Γ2, BnN B g (.int (lo + (i : Nat))) vs (wipeG Γ vs) Γ2 ∧ EtP B tt Γ2 (Pb (.int (lo + (i : Nat)))) ∧ (Pb (.int (lo + (i : Nat))) true → EvP B te Γ2 (Pe (.int (lo + (i : Nat)))))) :
    EvP B (tLc (iRng2 ta) g tt te vs) Γ (fun x => ∃ es, x = .list es ∧ LcR Pb Pe (rngD lo (n - lo).toNat) es) := fun F H σ o Q q => by
  refine hl F H σ o _ fun d0 v F1 H1 e g1 r1 hv => ?_
  subst e
  obtain ⟨w, z, rfl, hw, hz'⟩ := hv.two
  obtain rfl := hw.int_inv
  obtain rfl := hz'.int_inv
  have o1 := o.grow g1 r1
  refine ⟨lo, n, rfl, by omega, fun D hD => ?_⟩
  refine lc_range (lo := lo) (n := (n - lo).toNat) (LcS B Pb Pe (rngD lo (n - lo).toNat) F1 H1 D) (lc_start o1 hD) (fun i H' hi p => ?_) (fun H' p => ?_)
  · exact lc_turn o1 hD (by rw [rngD_len]; omega) (rngD_get hi) (fun F s => .int _) (ht i (by omega)) p
  · obtain ⟨F2, es, g2, r2, lr, hv2⟩ := lc_end o1 (by rw [rngD_len]; exact Nat.le_refl _) hD p
    exact q _ _ F2 H' ⟨es, rfl, lr⟩ (g1.trans g2) r2 hv2
/-- the same, told outright -/
theorem ev_lc {Γ : List Sk} {te : TE} {ds : List PyData} (f : PyData → Bool) (g : PyData → PyData) (h : EvP B te Γ (fun x => ∃ es, x = .list es ∧ LcR (fun d b => b = f d) (fun d e => e = g d) ds es)) : Ev B te Γ (.list ((ds.filter f).map g)) :=
  evp_mono h fun d ⟨es, e, lr⟩ => by rw [e, lr.det (fun _ _ _ z => z) (fun _ _ _ _ z => z)]
end Dl
set_option Elab.async false
set_option linter.all false
set_option maxRecDepth 100000
set_option maxHeartbeats 1000000
/-! Data layer 4: statements, targets, loops, calls of defs. -/
namespace Dl
open PySem PySem.Spec PyProof.Rows L2
variable {B : Bs} {Γ : List Sk}

/-! ### values of any kind -/
def FrS (H : Hp) (v : V) (s : Sk) : Prop := s.mut = true → ∃ l, v = .ref l ∧ H l = none
def EvS (B : Bs) (te : TE) (Γ : List Sk) (P : Sk → Prop) : Prop := ∀ (F H : Hp) (σ : L2.St), Own B F H σ Γ → ∀ Q : VK,
  (∀ (s : Sk) (v : V) (F' H' : Hp), P s → Gr B.A F H F' H' → (∀ a ∈ B.A, RowOk B.K F' H' a) → SkOk B F' H' (some v) s → FrS H v s → Q v H') → te σ H Q
theorem evs_im {te : TE} {Pe : PyData → Prop} (h : EvP B te Γ Pe) : EvS B te Γ (fun s => ∃ d, s = .im d ∧ Pe d) := fun F H σ o Q q =>
  h F H σ o Q fun d v F' H' p g r hv => q (.im d) v F' H' ⟨d, rfl, p⟩ g r ⟨v, rfl, hv⟩ fun z => nomatch z
theorem evs_mono {te : TE} {P P' : Sk → Prop} (h : EvS B te Γ P) (k : ∀ d, P d → P' d) : EvS B te Γ P' := fun F H σ o Q q => h F H σ o Q fun d v F' H' p => q d v F' H' (k d p)
theorem evs_d {te : TE} {d : PyData} (h : Ev B te Γ d) : EvS B te Γ (fun s => s = .im d) := evs_mono (evs_im h) fun s ⟨x, e, e2⟩ => by rw [e, e2]
theorem none_A {F H : Hp} {σ : L2.St} (o : Own B F H σ Γ) {l : Addr} (h : H l = none) : l ∉ B.A ∧ B.H0 l = none ∧ F l = none := by
  refine ⟨fun z => ?_, ?_, ?_⟩
  · obtain ⟨_, _, _, _, _, _, e, _⟩ := o.rows l z
    rw [h] at e
    cases e
  · cases q : B.H0 l with
    | none => rfl
    | some u => exact absurd h (o.gr.tt l (by rw [q]; exact fun z => nomatch z))
  · cases q : F l with
    | none => rfl
    | some u => rw [o.fh l u q] at h; cases h
/-- a new list of one's own -/
theorem evs_lst {t : TA} {Ps : List PyData → Prop} (h : EaP B t Γ Ps) (hz : ∀ ds, Ps ds → ds.length ≤ 100000) : EvS B (tLst t) Γ (fun s => ∃ ds, s = .ml ds ∧ Ps ds) := fun F H σ o Q q => by
  refine h F H σ o _ fun ds vs F1 H1 ps g1 r1 hv => ?_
  have z := hz ds ps
  refine ⟨by rw [hv.len, sizeLine_eq]; omega, fun p np => ?_⟩
  have o1 := o.grow g1 r1
  obtain ⟨n1, n2, n3⟩ := none_A o1 np
  have g2 : Gr [] F1 H1 F1 _ := Gr.own (o := .lst vs) g1.fh np
  refine q (.ml ds) (.ref p) F1 _ ⟨ds, rfl, ps⟩ (g1.trans (g2.weak fun _ h => nomatch h)) (fun a ha => (r1 a ha).gr0 g2) ⟨p, vs, rfl, n1, n2, n3, upd_same, hv⟩ fun _ => ⟨p, rfl, ?_⟩
  cases e : H p with
  | none => rfl
  | some u => exact absurd np (g1.tt p (by rw [e]; exact fun z => nomatch z))
theorem evs_nil : EvS B (tLst tNil) Γ (fun s => s = .ml []) := evs_mono (evs_lst ea_nil fun ds e => by rw [e]; exact Nat.zero_le _) fun s ⟨ds, e, e2⟩ => by rw [e, e2]
/-- [x] * n, one's own -/
theorem evs_rep {ta tb : TE} {ds : List PyData} {k : Int} (ha : Ev B ta Γ (.list ds)) (hb : Ev B tb Γ (.int k)) (h1 : 0 ≤ k ∧ k ≤ 100000) (h2 : ds.length * k.toNat ≤ 100000) : EvS B (tOp rRep ta tb) Γ (fun s => s = .ml (List.replicate k.toNat ds).flatten) := fun F H σ o Q q => by
  refine ha F H σ o _ fun da x F1 H1 ea g1 r1 hx => ?_
  refine hb F1 H1 σ (o.grow g1 r1) _ fun db y F2 H2 eb g2 r2 hy => ?_
  subst ea eb
  have G2 := g1.trans g2
  obtain ⟨a, xs, rfl, hxa, ra⟩ := (hx.mono g2.ff).lst_inv
  obtain rfl := hy.int_inv
  refine ⟨a, k, xs, rfl, rfl, g2.fh _ _ hxa, by omega, by omega, by rw [ra.len, sizeLine_eq]; omega, fun p np => ?_⟩
  obtain ⟨n1, n2, n3⟩ := none_A (o.grow G2 r2) np
  have g4 : Gr [] F2 H2 F2 _ := Gr.own (o := .lst (List.replicate k.toNat xs).flatten) g2.fh np
  refine q _ (.ref p) F2 _ rfl (G2.trans (g4.weak fun _ h => nomatch h)) (fun a ha => (r2 a ha).gr0 g4) ⟨p, _, rfl, n1, n2, n3, upd_same, ra.rep _⟩ fun _ => ⟨p, rfl, ?_⟩
  cases e : H p with
  | none => rfl
  | some u => exact absurd np (G2.tt p (by rw [e]; exact fun z => nomatch z))
/-- list(xs), one's own -/
theorem evs_list {K : PySem.W.Frag} {t : TA} {ds : List PyData} (h : Ea B t Γ [.list ds] ∨ Ea B t Γ [.tuple ds]) :
    EvS B (tCB (fun xs H Q => ∃ p ys, xs = [.ref p] ∧ (SqL K H p ys ∨ SqT K H p ys) ∧ ∀ l, H l = none → Q (.ref l) (upd H l (.lst ys))) t) Γ (fun s => s = .ml ds) := fun F H σ o Q q => by
  have fin : ∀ (F1 H1 : Hp) (ys : List V), Gr B.A F H F1 H1 → (∀ a ∈ B.A, RowOk B.K F1 H1 a) → DrA F1 ys ds → ∀ p, H1 p = none → Q (.ref p) (upd H1 p (.lst ys)) := fun F1 H1 ys g1 r1 r p np => by
    obtain ⟨n1, n2, n3⟩ := none_A (o.grow g1 r1) np
    have g4 : Gr [] F1 H1 F1 _ := Gr.own (o := .lst ys) g1.fh np
    refine q _ (.ref p) F1 _ rfl (g1.trans (g4.weak fun _ h => nomatch h)) (fun a ha => (r1 a ha).gr0 g4) ⟨p, _, rfl, n1, n2, n3, upd_same, r⟩ fun _ => ⟨p, rfl, ?_⟩
    cases e : H p with
    | none => rfl
    | some u => exact absurd np (g1.tt p (by rw [e]; exact fun z => nomatch z))
  rcases h with h | h
  · refine h F H σ o _ fun d0 vs F1 H1 e g1 r1 hv => ?_
    subst e
    obtain ⟨v, rfl, hv2⟩ := hv.one
    obtain ⟨a, ys, rfl, ha, r⟩ := hv2.lst_inv
    exact ⟨a, ys, rfl, .inl (SqL.of (g1.fh _ _ ha)), fin F1 H1 ys g1 r1 r⟩
  · refine h F H σ o _ fun d0 vs F1 H1 e g1 r1 hv => ?_
    subst e
    obtain ⟨v, rfl, hv2⟩ := hv.one
    obtain ⟨a, ys, rfl, ha, r⟩ := hv2.tup_inv
    exact ⟨a, ys, rfl, .inr (SqT.of (g1.fh _ _ ha)), fin F1 H1 ys g1 r1 r⟩
theorem evs_dk : EvS B tDNewK Γ (fun s => s = .dk []) := fun F H σ o Q q p np => by
  obtain ⟨n1, n2, n3⟩ := none_A o np
  have g4 : Gr [] F H F _ := Gr.own (o := .dK []) o.fh np
  exact q _ (.ref p) F _ rfl (g4.weak fun _ h => nomatch h) (rows_gr0 o g4) ⟨p, [], rfl, n1, n2, n3, upd_same, .nil⟩ fun _ => ⟨p, rfl, np⟩
theorem evs_dt : EvS B tDNewT Γ (fun s => s = .dt []) := fun F H σ o Q q p np => by
  obtain ⟨n1, n2, n3⟩ := none_A o np
  have g4 : Gr [] F H F _ := Gr.own (o := .dT []) o.fh np
  exact q _ (.ref p) F _ rfl (g4.weak fun _ h => nomatch h) (rows_gr0 o g4) ⟨p, [], rfl, n1, n2, n3, upd_same, .nil⟩ fun _ => ⟨p, rfl, np⟩
/-- a new dict for nested keys -/
def tDNewN (P : Program) (w : World) : TE := fun _ H Q => ∀ p, H p = none → (p == sysModules) = false → Q (.ref p) (upd H p (DnO P w p []))
theorem evs_dn : EvS B (tDNewN B.P B.w) Γ (fun s => s = .dn []) := fun F H σ o Q q p np _ => by
  obtain ⟨n1, n2, n3⟩ := none_A o np
  have g4 : Gr [] F H F _ := Gr.own (o := DnO B.P B.w p []) o.fh np
  exact q _ (.ref p) F _ rfl (g4.weak fun _ h => nomatch h) (rows_gr0 o g4) ⟨p, [], rfl, n1, n2, n3, upd_same, .nil⟩ fun _ => ⟨p, rfl, np⟩

inductive Sks (B : Bs) (F H : Hp) : List V → List Sk → Prop
  | nil : Sks B F H [] []
  | cons {v : V} {s : Sk} {vs : List V} {ss : List Sk} : SkOk B F H (some v) s → (s.mut = true → ∀ (i : Nat) (t : Sk), ss[i]? = some t → t.mut = true → vs[i]? ≠ some v) → Sks B F H vs ss → Sks B F H (v :: vs) (s :: ss)
theorem Sks.gr {F H F' H' : Hp} (g : Gr B.A F H F' H') : ∀ {vs : List V} {ss : List Sk}, Sks B F H vs ss → Sks B F' H' vs ss
  | _, _, .nil => .nil
  | _, _, .cons a b t => .cons (a.gr g) b (Sks.gr g t)
theorem Sks.len {F H : Hp} : ∀ {vs : List V} {ss : List Sk}, Sks B F H vs ss → vs.length = ss.length
  | _, _, .nil => rfl
  | _, _, .cons _ _ t => congrArg (· + 1) (Sks.len t)
theorem Sks.ims {F H : Hp} : ∀ {vs : List V} {ds : List PyData}, DrA F vs ds → Sks B F H vs (ds.map Sk.im)
  | _, _, .nil => .nil
  | _, _, .cons a t => .cons ⟨_, rfl, a⟩ (fun z => nomatch z) (Sks.ims t)
/-- the values that wait to be stored -/
structure Pend (B : Bs) (F H : Hp) (σ : L2.St) (Γ : List Sk) (vs : List V) (ss : List Sk) : Prop where
  own : Own B F H σ Γ
  ok : Sks B F H vs ss
  dis : ∀ (i : Nat) (v : V) (s : Sk), vs[i]? = some v → ss[i]? = some s → s.mut = true → ∀ j t, Γ[j]? = some t → t.mut = true → slot σ j ≠ some v
def EsP (B : Bs) (t : TA) (Γ : List Sk) (P : List Sk → Prop) : Prop := ∀ (F H : Hp) (σ : L2.St), Own B F H σ Γ → ∀ Q : List V → Hp → Prop,
  (∀ (ss : List Sk) (vs : List V) (F' H' : Hp), P ss → Gr B.A F H F' H' → (∀ a ∈ B.A, RowOk B.K F' H' a) → Sks B F' H' vs ss → (∀ (i : Nat) (v : V) (s : Sk), vs[i]? = some v → ss[i]? = some s → FrS H v s) → Q vs H') → t σ H Q
theorem esp_nil : EsP B tNil Γ (fun ss => ss = []) := fun F H σ o Q q => q [] [] F H rfl (Gr.refl o.fh) o.rows .nil fun i v s h => by simp at h
theorem SkOk.some_addr {F H : Hp} {v : V} {s : Sk} (h : SkOk B F H (some v) s) (m : s.mut = true) : ∃ l u, v = .ref l ∧ H l = some u := by
  obtain ⟨l, u, e, _, _, _, hl⟩ := h.addr m
  exact ⟨l, u, Option.some.inj e, hl⟩
theorem esp_cons {ta : TE} {tr : TA} {Pa : Sk → Prop} {Pr : Sk → List Sk → Prop} {P : List Sk → Prop} (ha : EvS B ta Γ Pa) (hr : ∀ s, Pa s → EsP B tr Γ (Pr s)) (hp : ∀ s ss, Pa s → Pr s ss → P (s :: ss)) : EsP B (tCons ta tr) Γ P := fun F H σ o Q q => by
  refine ha F H σ o _ fun s v F1 H1 pa g1 r1 hv f1 => ?_
  refine hr s pa F1 H1 σ (o.grow g1 r1) _ fun ss vs F2 H2 pr g2 r2 hs f2 => ?_
  refine q (s :: ss) (v :: vs) F2 H2 (hp s ss pa pr) (g1.trans g2) r2 (.cons (hv.gr g2) (fun m i t ht mt e => ?_) hs) fun i w u hw hu => ?_
  · obtain ⟨l, e1, n1⟩ := f2 i v t e ht mt
    obtain ⟨l', u, e2, n2⟩ := hv.some_addr m
    rw [e1] at e2
    cases e2
    rw [n1] at n2
    cases n2
  · cases i with
    | zero =>
      simp at hw hu
      subst hw hu
      exact f1
    | succ i =>
      intro m
      obtain ⟨l, e1, n1⟩ := f2 i w u (by simpa using hw) (by simpa using hu) m
      refine ⟨l, e1, ?_⟩
      cases e : H l with
      | none => rfl
      | some x => exact absurd n1 (g1.tt l (by rw [e]; exact fun z => nomatch z))
theorem es_cons {ta : TE} {tr : TA} {s : Sk} {ss : List Sk} (ha : EvS B ta Γ (fun x => x = s)) (hr : EsP B tr Γ (fun x => x = ss)) : EsP B (tCons ta tr) Γ (fun x => x = s :: ss) :=
  esp_cons ha (fun _ _ => hr) (fun _ _ e1 e2 => by rw [e1, e2])
theorem pend_of {F H F' H' : Hp} {σ : L2.St} {vs : List V} {ss : List Sk} (o : Own B F H σ Γ) (g : Gr B.A F H F' H') (r : ∀ a ∈ B.A, RowOk B.K F' H' a) (hs : Sks B F' H' vs ss) (f : ∀ (i : Nat) (v : V) (s : Sk), vs[i]? = some v → ss[i]? = some s → FrS H v s) : Pend B F' H' σ Γ vs ss :=
  ⟨o.grow g r, hs, fun i v s hv hs m j t hj mt e => by
    obtain ⟨l, e1, n1⟩ := f i v s hv hs m
    subst e1
    obtain ⟨l', u, e2, _, _, _, hl⟩ := (o.at_ j t hj).addr mt
    rw [e] at e2
    cases e2
    rw [n1] at hl
    cases hl⟩
theorem pend_ims {F H : Hp} {σ : L2.St} {vs : List V} {ds : List PyData} (o : Own B F H σ Γ) (h : DrA F vs ds) : Pend B F H σ Γ vs (ds.map Sk.im) :=
  ⟨o, Sks.ims h, fun i v s hv hs m => by
    rw [List.getElem?_map] at hs
    cases q : ds[i]? with
    | none => rw [q] at hs; cases hs
    | some d => rw [q] at hs; cases hs; cases m⟩
/-- the first one is stored at a name -/
theorem Pend.name {F H : Hp} {σ : L2.St} {v : V} {s : Sk} {vs : List V} {ss : List Sk} {i : Nat} (p : Pend B F H σ Γ (v :: vs) (s :: ss)) : Pend B F H (σ.set i (some v)) (Γ.set i s) vs ss := by
  obtain ⟨o, ok, dis⟩ := p
  cases ok with
  | cons a b t =>
    refine ⟨o.setSk a fun m j u ne hj mu => dis 0 v s rfl rfl m j u hj mu, t, fun k w u hw hu m j x hj mx e => ?_⟩
    by_cases z : i = j
    · subst z
      by_cases hl : i < Γ.length
      · rw [List.getElem?_set_self hl] at hj
        cases hj
        rw [slot_set_same (by rw [o.len]; exact hl)] at e
        cases e
        exact b mx k u hu m hw
      · rw [List.getElem?_eq_none (by simpa using hl)] at hj
        cases hj
    · rw [List.getElem?_set_ne z] at hj
      rw [slot_set_ne z] at e
      exact dis (k + 1) w u (by simpa using hw) (by simpa using hu) m j x hj mx e

/-! ### targets -/
def BtsP (B : Bs) (g : TGs) (ss : List Sk) (Γ : List Sk) (R : List Sk → Prop) : Prop := ∀ (F H : Hp) (σ : L2.St) (vs : List V), Pend B F H σ Γ vs ss → ∀ Q : L2.St → Hp → Prop,
  (∀ σ' F' H' Γ', R Γ' → Same F F' → Own B F' H' σ' Γ' → Q σ' H') → g vs σ H Q
def TgP (B : Bs) (g : TG) (d : PyData) (Γ : List Sk) (R : List Sk → Prop) : Prop := ∀ (F H : Hp) (σ : L2.St) (v : V), Own B F H σ Γ → Dr F v d → ∀ Q : L2.St → Hp → Prop,
  (∀ σ' F' H' Γ', R Γ' → Same F F' → Own B F' H' σ' Γ' → Q σ' H') → g v σ H Q
theorem bts_nil {R : List Sk → Prop} (h : R Γ) : BtsP B gNil [] Γ R := fun F H σ vs p Q q => by
  obtain ⟨o, ok, _⟩ := p
  cases ok
  exact ⟨rfl, q σ F H Γ h (Same.refl F) o⟩
theorem bts_name {u : TGs} {s : Sk} {ss : List Sk} {i : Nat} {R : List Sk → Prop} (h : BtsP B u ss (Γ.set i s) R) : BtsP B (gCons (gName i) u) (s :: ss) Γ R := fun F H σ vs p Q q => by
  have p0 := p
  obtain ⟨o, ok, _⟩ := p
  cases ok with
  | cons a b t => exact ⟨_, _, rfl, h F H _ _ p0.name Q q⟩
theorem tg_name {i : Nat} {d : PyData} {R : List Sk → Prop} (h : R (Γ.set i (.im d))) : TgP B (gName i) d Γ R := fun F H σ v o hv Q q => q _ F H _ h (Same.refl F) (o.setIm hv)
theorem tg_tup {K : PySem.W.Frag} {n : Nat} {g : TGs} {ds : List PyData} {R : List Sk → Prop} (hn : ds.length = n) (h : BtsP B g (ds.map Sk.im) Γ R) : TgP B (gTup K n g) (.tuple ds) Γ R := fun F H σ v o hv Q q => by
  obtain ⟨a, xs, rfl, ha, r⟩ := hv.tup_inv
  exact ⟨a, xs, rfl, SqT.of (o.fh _ _ ha), by rw [r.len]; exact hn, h F H σ xs (pend_ims o r) Q q⟩
/-- a tuple in a tuple of names: what waits behind it is data -/
theorem bts_tup {K : PySem.W.Frag} {n : Nat} {g u : TGs} {ds es : List PyData} {R : List Sk → Prop} (hn : ds.length = n) (h : BtsP B g (ds.map Sk.im) Γ (fun Γ1 => BtsP B u (es.map Sk.im) Γ1 R)) : BtsP B (gCons (gTup K n g) u) (.im (.tuple ds) :: es.map Sk.im) Γ R := fun F H σ vs p Q q => by
  have ims : ∀ {ws : List V} {es : List PyData}, Sks B F H ws (es.map Sk.im) → DrA F ws es := by
    intro ws es
    induction es generalizing ws with
    | nil => intro h; cases h; exact .nil
    | cons e es ih =>
      intro h
      rw [List.map_cons] at h
      cases h with
      | cons a b t =>
        obtain ⟨x, e, hx⟩ := a
        cases e
        exact .cons hx (ih t)
  obtain ⟨o, ok, dis⟩ := p
  cases ok with
  | cons a b t =>
    obtain ⟨x, e, hx⟩ := a
    cases e
    refine ⟨_, _, rfl, ?_⟩
    refine tg_tup hn h F H σ _ o hx _ fun σ1 F1 H1 Γ1 h1 s1 o1 => ?_
    exact h1 F1 H1 σ1 _ (pend_ims o1 ((ims t).mono s1)) Q fun σ' F' H' Γ' r s2 o2 => q σ' F' H' Γ' r (s1.trans s2) o2

/-! ### stores -/
/-- xs[i] read in xs[i] op= e -/
def rGetL (K : PySem.W.Frag) : V → V → Hp → VK → Prop := fun x y H Q => ∃ p xs i v, x = .ref p ∧ y = .int i ∧ 0 ≤ i ∧ i < 2 ^ 62 ∧ SqL K H p xs ∧ atI xs i = some v ∧ Q v H
/-- d[k] = v, by values -/
def rSetD : TSet := fun o i v H Q => ∃ a H', o = .ref a ∧ DPut H a i v H' ∧ Q H'
/-- .. at nested keys -/
def nputL (L : List NEnt) (b : Addr) (kd : PyData) (v : V) : List NEnt := if nkOf kd ∈ L.map (fun p => nkOf p.2.1) then L.map (fun p => if nkOf p.2.1 = nkOf kd then (p.1, p.2.1, v) else p) else L ++ [(b, kd, v)]
def rSetN (P : Program) (w : World) : TSet := fun o i v H Q => ∃ (a b : Addr) (L : List NEnt) (kd : PyData), o = .ref a ∧ i = .ref b ∧ H a = some (DnO P w a L) ∧ Dr H (.ref b) kd ∧ (∀ p ∈ L, Dr H (.ref p.1) p.2.1 ∧ Tp 7 p.2.1 = true) ∧ L.length < 100000 ∧
  Tp 7 kd = true ∧ Q (upd H a (DnO P w a (nputL L b kd v)))
/-- what a store makes of a slot -/
def SetD (B : Bs) (t : TSet) (kd d : PyData) (s s' : Sk) : Prop := ∀ (F H : Hp) (l : Addr) (i v : V), Same F H → SkOk B F H (some (.ref l)) s → Dr F i kd → Dr F v d → ∀ Q : Hp → Prop,
  (∀ u, H l ≠ none → SkOk B F (upd H l u) (some (.ref l)) s' → Q (upd H l u)) → t (.ref l) i v H Q
theorem sd_dk {kvs : List (Int × PyData)} {z : Int} {d : PyData} (hz : kvs.length < 100000) : SetD B rSetD (.int z) d (.dk kvs) (.dk (aput kvs z d)) := fun F H l i v sm hs hi hv Q q => by
  obtain ⟨l', ws, e, ha, h0, hf, hl, r⟩ := hs
  cases e
  obtain rfl := hi.int_inv
  refine ⟨l, _, rfl, DPut.k (k := kI z) hl (by rw [r.len, sizeLine_eq]; omega), ?_⟩
  exact q _ (by rw [hl]; exact fun z => nomatch z) ⟨l, _, rfl, ha, h0, hf, upd_same, kv_put kI_inj r hv⟩
theorem sd_dt {kvs : List (List Int × PyData)} {k : List Int} {d : PyData} (hz : kvs.length < 100000) : SetD B rSetD (tI k) d (.dt kvs) (.dt (aput kvs k d)) := fun F H l i v sm hs hi hv Q q => by
  obtain ⟨l', ws, e, ha, h0, hf, hl, r⟩ := hs
  cases e
  obtain ⟨b, rfl, hb⟩ := dr_tI hi
  refine ⟨l, _, rfl, DPut.t (k := kT k) hl (sm _ _ hb) (by rw [r.len, sizeLine_eq]; omega), ?_⟩
  exact q _ (by rw [hl]; exact fun z => nomatch z) ⟨l, _, rfl, ha, h0, hf, upd_same, kv_put kT_inj r hv⟩
/-- a dict with nested keys behind a store -/
def nput (kvs : List (PyData × PyData)) (kd d : PyData) : List (PyData × PyData) := if nkOf kd ∈ kvs.map (fun p => nkOf p.1) then kvs.map (fun p => if nkOf p.1 = nkOf kd then (p.1, d) else p) else kvs ++ [(kd, d)]
theorem NtR.keys {F : Hp} : ∀ {L : List NEnt} {kvs : List (PyData × PyData)}, NtR F L kvs → L.map (fun p => p.2.1) = kvs.map (·.1)
  | _, _, .nil => rfl
  | _, _, .cons a b t => by rw [List.map_cons, List.map_cons, NtR.keys t]
theorem NtR.len {F : Hp} : ∀ {L : List NEnt} {kvs : List (PyData × PyData)}, NtR F L kvs → L.length = kvs.length
  | _, _, .nil => rfl
  | _, _, .cons a b t => by rw [List.length_cons, List.length_cons, NtR.len t]
theorem NtR.key {F : Hp} : ∀ {L : List NEnt} {kvs : List (PyData × PyData)}, NtR F L kvs → ∀ p ∈ L, Dr F (.ref p.1) p.2.1
  | _, _, .nil => fun p hp => nomatch hp
  | _, _, .cons a b t => fun p hp => by
    rcases List.mem_cons.mp hp with e | hp
    · rw [e]; exact a
    · exact NtR.key t p hp
theorem NtR.snoc {F : Hp} {b : Addr} {kd d : PyData} {v : V} (h1 : Dr F (.ref b) kd) (h2 : Dr F v d) : ∀ {L : List NEnt} {kvs : List (PyData × PyData)}, NtR F L kvs → NtR F (L ++ [(b, kd, v)]) (kvs ++ [(kd, d)])
  | _, _, .nil => .cons h1 h2 .nil
  | _, _, .cons a b t => .cons a b (NtR.snoc h1 h2 t)
theorem NtR.repl {F : Hp} {kd d : PyData} {v : V} (h2 : Dr F v d) : ∀ {L : List NEnt} {kvs : List (PyData × PyData)}, NtR F L kvs → NtR F (L.map fun p => if nkOf p.2.1 = nkOf kd then (p.1, p.2.1, v) else p) (kvs.map fun p => if nkOf p.1 = nkOf kd then (p.1, d) else p)
  | _, _, .nil => .nil
  | _, _, .cons (kd := k0) a b t => by
    rw [List.map_cons, List.map_cons]
    by_cases e : nkOf k0 = nkOf kd
    · rw [if_pos e, if_pos e]
      exact .cons a h2 (NtR.repl h2 t)
    · rw [if_neg e, if_neg e]
      exact .cons a b (NtR.repl h2 t)
theorem NtR.put {F : Hp} {b : Addr} {kd d : PyData} {v : V} (h1 : Dr F (.ref b) kd) (h2 : Dr F v d) {L : List NEnt} {kvs : List (PyData × PyData)} (h : NtR F L kvs) : NtR F (nputL L b kd v) (nput kvs kd d) := by
  unfold nputL nput
  have e : L.map (fun p => nkOf p.2.1) = kvs.map (fun p => nkOf p.1) := by
    have := congrArg (List.map nkOf) h.keys
    rw [List.map_map, List.map_map] at this
    exact this
  rw [e]
  by_cases m : nkOf kd ∈ kvs.map (fun p => nkOf p.1)
  · rw [if_pos m, if_pos m]
    exact h.repl h2
  · rw [if_neg m, if_neg m]
    exact h.snoc h1 h2
theorem sd_dn {kvs : List (PyData × PyData)} {kd d : PyData} (hz : kvs.length < 100000) (hp : Tp 7 kd = true) (ht : ∃ ds, kd = .tuple ds) (hk : ∀ p ∈ kvs, Tp 7 p.1 = true) : SetD B (rSetN B.P B.w) kd d (.dn kvs) (.dn (nput kvs kd d)) := fun F H l i v sm hs hi hv Q q => by
  obtain ⟨l', L, e, ha, h0, hf, hl, r⟩ := hs
  cases e
  obtain ⟨ds, rfl⟩ := ht
  have hi0 := hi
  obtain ⟨b, xs, rfl, hb, rx⟩ := hi.tup_inv
  refine ⟨l, b, L, _, rfl, rfl, hl, hi0.mono sm, fun p hp => ⟨(r.key p hp).mono sm, ?_⟩, by rw [r.len]; exact hz, hp, ?_⟩
  · have : p.2.1 ∈ kvs.map (·.1) := by
      rw [← r.keys]
      exact List.mem_map.mpr ⟨p, hp, rfl⟩
    obtain ⟨x, hx, e⟩ := List.mem_map.mp this
    rw [← e]
    exact hk x hx
  · exact q _ (by rw [hl]; exact fun z => nomatch z) ⟨l, _, rfl, ha, h0, hf, upd_same, r.put hi0 hv⟩
theorem sd_ml {ds : List PyData} {z : Int} {j : Nat} {d : PyData} (hj : ixN ds.length z = some j) : SetD B rSetL (.int z) d (.ml ds) (.ml (ds.set j d)) := fun F H l i v sm hs hi hv Q q => by
  obtain ⟨l', xs, e, ha, h0, hf, hl, r⟩ := hs
  cases e
  obtain rfl := hi.int_inv
  refine ⟨l, xs, z, j, rfl, rfl, hl, by rw [r.len]; exact hj, ?_⟩
  exact q _ (by rw [hl]; exact fun z => nomatch z) ⟨l, _, rfl, ha, h0, hf, upd_same, r.set hv j⟩
/-- a target o[i], o one's own -/
theorem tg_sub {ti : TE} {t : TSet} {i : Nat} {s s' : Sk} {kd d : PyData} {R : List Sk → Prop} (hi : Γ[i]? = some s) (m : s.mut = true) (m' : s'.mut = true) (hk : Ev B ti Γ kd) (hs : SetD B t kd d s s') (h : R (Γ.set i s')) : TgP B (gSub (tVar i) ti t) d Γ R := fun F H σ v o hv Q q => by
  obtain ⟨l, u, e, _⟩ := (o.at_ i s hi).addr m
  refine ⟨.ref l, slot_eq e, ?_⟩
  refine hk F H σ o _ fun kd' y F1 H1 ek g1 r1 hy => ?_
  subst ek
  have o1 := o.grow g1 r1
  have h1 := o1.at_ i s hi
  rw [e] at h1
  refine hs F1 H1 l y v g1.fh h1 hy (hv.mono g1.ff) _ fun u' _ hn => ?_
  exact q σ F1 _ _ h g1.ff (o1.write hi m m' e hn)
/-- .. as the first of several -/
theorem bts_sub {u : TGs} {ti : TE} {t : TSet} {i : Nat} {s s' : Sk} {kd d : PyData} {es : List PyData} {R : List Sk → Prop} (hi : Γ[i]? = some s) (m : s.mut = true) (m' : s'.mut = true) (hk : Ev B ti Γ kd) (hs : SetD B t kd d s s') (h : BtsP B u (es.map Sk.im) (Γ.set i s') R) :
    BtsP B (gCons (gSub (tVar i) ti t) u) (.im d :: es.map Sk.im) Γ R := fun F H σ vs p Q q => by
  have ims : ∀ {ws : List V} {es : List PyData}, Sks B F H ws (es.map Sk.im) → DrA F ws es := by
    intro ws es
    induction es generalizing ws with
    | nil => intro h; cases h; exact .nil
    | cons e es ih =>
      intro h
      rw [List.map_cons] at h
      cases h with
      | cons a b t =>
        obtain ⟨x, e, hx⟩ := a
        cases e
        exact .cons hx (ih t)
  obtain ⟨o, ok, dis⟩ := p
  cases ok with
  | cons a b tl =>
    obtain ⟨x, e, hx⟩ := a
    cases e
    refine ⟨_, _, rfl, ?_⟩
    refine tg_sub (R := fun Γ1 => Γ1 = Γ.set i s') hi m m' hk hs rfl F H σ _ o hx _ fun σ1 F1 H1 Γ1 e1 s1 o1 => ?_
    subst e1
    exact h F1 H1 σ1 _ (pend_ims o1 ((ims tl).mono s1)) Q fun σ' F' H' Γ' r s2 o2 => q σ' F' H' Γ' r (s1.trans s2) o2
/-- .. where something of one's own waits behind it -/
theorem bts_subM {u : TGs} {ti : TE} {t : TSet} {i : Nat} {s s' : Sk} {kd d : PyData} {ss : List Sk} {R : List Sk → Prop} (hi : Γ[i]? = some s) (m : s.mut = true) (m' : s'.mut = true) (hk : Ev B ti Γ kd) (hs : SetD B t kd d s s') (h : BtsP B u ss (Γ.set i s') R) :
    BtsP B (gCons (gSub (tVar i) ti t) u) (.im d :: ss) Γ R := fun F H σ vs p Q q => by
  have p0 := p
  obtain ⟨o, ok, dis⟩ := p
  cases ok with
  | cons a b tl =>
    rename_i v vs
    obtain ⟨x, e, hx⟩ := a
    cases e
    refine ⟨_, _, rfl, ?_⟩
    obtain ⟨l, u0, e, _⟩ := (o.at_ i s hi).addr m
    refine ⟨.ref l, slot_eq e, ?_⟩
    refine hk F H σ o _ fun kd' y F1 H1 ek g1 r1 hy => ?_
    subst ek
    have o1 := o.grow g1 r1
    have h1 := o1.at_ i s hi
    rw [e] at h1
    refine hs F1 H1 l y v g1.fh h1 hy (hx.mono g1.ff) _ fun u' _ hn => ?_
    have o2 := o1.write hi m m' e hn
    -- what waits stands as it stood
    have w : ∀ {ws : List V} {rs : List Sk}, Sks B F1 H1 ws rs → (∀ (k : Nat) (v : V) (s : Sk), ws[k]? = some v → rs[k]? = some s → s.mut = true → v ≠ .ref l) → Sks B F1 (upd H1 l u') ws rs := by
      intro ws rs hh
      induction hh with
      | nil => intro _; exact .nil
      | @cons v s vs ss a b t ih =>
        intro hn
        refine .cons ?_ b (ih fun k v s h1 h2 => hn (k + 1) v s (by simpa using h1) (by simpa using h2))
        have n0 := hn 0 v s rfl rfl
        cases s with
        | un => trivial
        | im d => exact a
        | ml ds => obtain ⟨l', xs, e1, a1, a2, a3, a4, a5⟩ := a; cases e1; exact ⟨l', xs, rfl, a1, a2, a3, by rw [upd_ne (fun z => n0 rfl (by rw [z]))]; exact a4, a5⟩
        | dk ds => obtain ⟨l', xs, e1, a1, a2, a3, a4, a5⟩ := a; cases e1; exact ⟨l', xs, rfl, a1, a2, a3, by rw [upd_ne (fun z => n0 rfl (by rw [z]))]; exact a4, a5⟩
        | dt ds => obtain ⟨l', xs, e1, a1, a2, a3, a4, a5⟩ := a; cases e1; exact ⟨l', xs, rfl, a1, a2, a3, by rw [upd_ne (fun z => n0 rfl (by rw [z]))]; exact a4, a5⟩
        | dn ds => obtain ⟨l', xs, e1, a1, a2, a3, a4, a5⟩ := a; cases e1; exact ⟨l', xs, rfl, a1, a2, a3, by rw [upd_ne (fun z => n0 rfl (by rw [z]))]; exact a4, a5⟩
        | row => exact a
        | scr => exact a
    have di : ∀ (k : Nat) (v : V) (s2 : Sk), vs[k]? = some v → ss[k]? = some s2 → s2.mut = true → v ≠ .ref l := fun k v s2 h1 h2 m2 z => dis (k + 1) v s2 (by simpa using h1) (by simpa using h2) m2 i s hi m (by rw [e, z])
    refine h F1 _ σ vs ⟨o2, w (tl.gr g1) di, fun k v s2 h1 h2 m2 j t2 hj mt e2 => ?_⟩ Q fun σ' F' H' Γ' r s2 o2 => q σ' F' H' Γ' r (g1.ff.trans s2) o2
    by_cases z : i = j
    · subst z
      rw [e] at e2
      exact di k v s2 h1 h2 m2 (Option.some.inj e2).symm
    · rw [List.getElem?_set_ne z] at hj
      exact dis (k + 1) v s2 (by simpa using h1) (by simpa using h2) m2 j t2 hj mt e2

/-! ### statements -/
structure Po where
  nx : List Sk → Prop
  rt : PyData → Prop
  bk : List Sk → Prop := fun _ => False
  ct : List Sk → Prop := fun _ => False
structure EndsOk (B : Bs) (F : Hp) (P : Po) (D : Ends) : Prop where
  nx : ∀ F' H' σ' Γ', Same F F' → P.nx Γ' → Own B F' H' σ' Γ' → D.nx σ' H'
  rt : ∀ d v F' H', Same F F' → P.rt d → Gr B.A B.F0 B.H0 F' H' → (∀ a ∈ B.A, RowOk B.K F' H' a) → Dr F' v d → D.rt v H'
  bk : ∀ F' H' σ' Γ', Same F F' → P.bk Γ' → Own B F' H' σ' Γ' → D.bk σ' H'
  ct : ∀ F' H' σ' Γ', Same F F' → P.ct Γ' → Own B F' H' σ' Γ' → D.ct σ' H'
theorem EndsOk.up {F F' : Hp} {P : Po} {D : Ends} (e : EndsOk B F P D) (s : Same F F') : EndsOk B F' P D :=
  ⟨fun F2 H2 σ2 Γ2 s2 => e.nx F2 H2 σ2 Γ2 (s.trans s2), fun d v F2 H2 s2 => e.rt d v F2 H2 (s.trans s2), fun F2 H2 σ2 Γ2 s2 => e.bk F2 H2 σ2 Γ2 (s.trans s2), fun F2 H2 σ2 Γ2 s2 => e.ct F2 H2 σ2 Γ2 (s.trans s2)⟩
def Wp (B : Bs) (ts : TS) (Γ : List Sk) (P : Po) : Prop := ∀ (F H : Hp) (σ : L2.St) (D : Ends), Own B F H σ Γ → EndsOk B F P D → ts D σ H
variable {P : Po}
theorem wp_next (h : P.nx Γ) : Wp B tNext Γ P := fun F H σ D o e => e.nx F H σ Γ (Same.refl F) h o
theorem wp_brk (h : P.bk Γ) : Wp B tBreak Γ P := fun F H σ D o e => e.bk F H σ Γ (Same.refl F) h o
theorem wp_cont (h : P.ct Γ) : Wp B tCont Γ P := fun F H σ D o e => e.ct F H σ Γ (Same.refl F) h o
theorem wp_seq {t u : TS} (h : Wp B t Γ { P with nx := fun Γ1 => Wp B u Γ1 P }) : Wp B (tSeq t u) Γ P := fun F H σ D o e =>
  h F H σ { D with nx := u D } o ⟨fun F1 H1 σ1 Γ1 s1 h1 o1 => h1 F1 H1 σ1 D o1 (e.up s1), e.rt, e.bk, e.ct⟩
theorem wp_mono {t : TS} {P' : Po} (h : Wp B t Γ P) (k1 : ∀ Γ1, P.nx Γ1 → P'.nx Γ1) (k2 : ∀ d, P.rt d → P'.rt d) (k3 : ∀ Γ1, P.bk Γ1 → P'.bk Γ1) (k4 : ∀ Γ1, P.ct Γ1 → P'.ct Γ1) : Wp B t Γ P' := fun F H σ D o e =>
  h F H σ D o ⟨fun F1 H1 σ1 Γ1 s p => e.nx F1 H1 σ1 Γ1 s (k1 Γ1 p), fun d v F1 H1 s p => e.rt d v F1 H1 s (k2 d p), fun F1 H1 σ1 Γ1 s p => e.bk F1 H1 σ1 Γ1 s (k3 Γ1 p), fun F1 H1 σ1 Γ1 s p => e.ct F1 H1 σ1 Γ1 s (k4 Γ1 p)⟩
/-- an own list, dict is kept as data from here on -/
theorem wp_freeze {t : TS} {i : Nat} {s : Sk} {d : PyData} (hi : Γ[i]? = some s) (hs : s.froz = some d) (h : Wp B t (Γ.set i (.im d)) P) : Wp B t Γ P := fun F H σ D o e => by
  obtain ⟨F', s1, _, o1⟩ := o.freeze hi hs
  exact h F' H σ D o1 (e.up s1)
/-- a slot is forgotten -/
theorem wp_forget {t : TS} {i : Nat} (h : Wp B t (Γ.set i .un) P) : Wp B t Γ P := fun F H σ D o e => by
  refine h F H σ D ⟨o.gr, by simpa using o.len, fun j t hj => ?_, fun j k a b y ne hj hk ms mt e1 => ?_, o.rows⟩ e
  · by_cases z : i = j
    · subst z
      by_cases hl : i < Γ.length
      · rw [List.getElem?_set_self hl] at hj
        cases hj
        trivial
      · rw [List.getElem?_eq_none (by simpa using hl)] at hj
        cases hj
    · rw [List.getElem?_set_ne z] at hj
      exact o.at_ j t hj
  · have hh : ∀ {j : Nat} {t : Sk}, (Γ.set i .un)[j]? = some t → t.mut = true → Γ[j]? = some t := fun {j t} h m => by
      by_cases z : i = j
      · subst z
        by_cases hl : i < Γ.length
        · rw [List.getElem?_set_self hl] at h
          cases h
          cases m
        · rw [List.getElem?_eq_none (by simpa using hl)] at h
          cases h
      · rw [List.getElem?_set_ne z] at h
        exact h
    exact o.sep j k a b y ne (hh hj ms) (hh hk mt) ms mt e1
theorem wp_asg {te : TE} {i : Nat} {Ps : Sk → Prop} (h : EvS B te Γ Ps) (k : ∀ s, Ps s → P.nx (Γ.set i s)) : Wp B (tAsg te (gName i)) Γ P := fun F H σ D o e =>
  h F H σ o _ fun s v F1 H1 ps g r hv f => by
    refine e.nx F1 H1 _ _ g.ff (k s ps) ((o.grow g r).setSk hv fun m j t ne hj mt e2 => ?_)
    obtain ⟨l, e1, n1⟩ := f m
    obtain ⟨l', u, e3, _, _, _, hl⟩ := (o.at_ j t hj).addr mt
    rw [e2, e1] at e3
    cases e3
    rw [n1] at hl
    cases hl
theorem wp_set {te : TE} {i : Nat} {d : PyData} (h : Ev B te Γ d) (k : P.nx (Γ.set i (.im d))) : Wp B (tAsg te (gName i)) Γ P := wp_asg (evs_d h) fun s e => by rw [e]; exact k
theorem wp_setP {te : TE} {i : Nat} {Pe : PyData → Prop} (h : EvP B te Γ Pe) (k : ∀ d, Pe d → P.nx (Γ.set i (.im d))) : Wp B (tAsg te (gName i)) Γ P := wp_asg (evs_im h) fun s ⟨d, e, p⟩ => by rw [e]; exact k d p
theorem wp_setS {te : TE} {i : Nat} {s : Sk} (h : EvS B te Γ (fun x => x = s)) (k : P.nx (Γ.set i s)) : Wp B (tAsg te (gName i)) Γ P := wp_asg h fun x e => by rw [e]; exact k
/-- target = value -/
theorem wp_asgG {te : TE} {g : TG} {Pe : PyData → Prop} (h : EvP B te Γ Pe) (k : ∀ d, Pe d → TgP B g d Γ P.nx) : Wp B (tAsg te g) Γ P := fun F H σ D o e =>
  h F H σ o _ fun d v F1 H1 p gr r hv => k d p F1 H1 σ v (o.grow gr r) hv _ fun σ2 F2 H2 Γ2 n s o2 => e.nx F2 H2 σ2 Γ2 (gr.ff.trans s) n o2
/-- a, b, .. = x, y, .. by a tuple -/
theorem wp_asgT {K : PySem.W.Frag} {ta : TA} {n : Nat} {g : TGs} {Ps : List Sk → Prop} (h : EsP B ta Γ Ps) (k : ∀ ss, Ps ss → ss.length = n ∧ n ≤ 100000 ∧ BtsP B g ss Γ P.nx) : Wp B (tAsg (tTup ta) (gTup K n g)) Γ P := fun F H σ D o e =>
  h F H σ o _ fun ss vs F1 H1 ps gr r hs f => by
    obtain ⟨h1, h2, h3⟩ := k ss ps
    have hl := hs.len
    refine ⟨by rw [hl, sizeLine_eq]; omega, fun p np => ?_⟩
    have pd := pend_of o gr r hs f
    have g2 : Gr [] F1 H1 F1 (upd H1 p (.tup vs)) := Gr.own gr.fh np
    have g2' := g2.weak (B := B.A) fun _ h => nomatch h
    refine ⟨p, vs, rfl, SqT.of upd_same, by omega, ?_⟩
    exact h3 F1 _ σ vs ⟨pd.own.grow0 g2, hs.gr g2', pd.dis⟩ _ fun σ2 F2 H2 Γ2 n s o2 => e.nx F2 H2 σ2 Γ2 (gr.ff.trans s) n o2
theorem wp_par {ta : TA} {i j : Nat} {Ps : List Sk → Prop} (h : EsP B ta Γ Ps) (k : ∀ ss, Ps ss → ∃ s t, ss = [s, t] ∧ P.nx ((Γ.set i s).set j t)) : Wp B (tPar i j ta) Γ P := fun F H σ D o e =>
  h F H σ o _ fun ss vs F1 H1 ps gr r hs f => by
    obtain ⟨s, t, rfl, n⟩ := k ss ps
    have pd := pend_of o gr r hs f
    cases hs with
    | cons a b tl =>
      cases tl with
      | cons a2 b2 tl2 =>
        cases tl2
        exact ⟨_, _, rfl, e.nx F1 H1 _ _ gr.ff n pd.name.name.own⟩
theorem wp_par3 {ta : TA} {i j l : Nat} {Ps : List Sk → Prop} (h : EsP B ta Γ Ps) (k : ∀ ss, Ps ss → ∃ s t u, ss = [s, t, u] ∧ P.nx (((Γ.set i s).set j t).set l u)) : Wp B (tPar3 i j l ta) Γ P := fun F H σ D o e =>
  h F H σ o _ fun ss vs F1 H1 ps gr r hs f => by
    obtain ⟨s, t, u, rfl, n⟩ := k ss ps
    have pd := pend_of o gr r hs f
    cases hs with
    | cons a b tl =>
      cases tl with
      | cons a2 b2 tl2 =>
        cases tl2 with
        | cons a3 b3 tl3 =>
          cases tl3
          exact ⟨_, _, _, rfl, e.nx F1 H1 _ _ gr.ff n pd.name.name.name.own⟩
theorem wp_ret {te : TE} {Pe : PyData → Prop} (h : EvP B te Γ Pe) (k : ∀ d, Pe d → P.rt d) : Wp B (tRet te) Γ P := fun F H σ D o e =>
  h F H σ o _ fun d v F1 H1 p g r hv => e.rt d v F1 H1 g.ff (k d p) (o.grow g r).gr r hv
theorem wp_retD {te : TE} {d : PyData} (h : Ev B te Γ d) (k : P.rt d) : Wp B (tRet te) Γ P := wp_ret h fun x e => by rw [e]; exact k
theorem wp_retN (k : P.rt .none) : Wp B tRetN Γ P := fun F H σ D o e => e.rt .none .non F H (Same.refl F) k o.gr o.rows .non
theorem wp_drop {te : TE} {Pe : PyData → Prop} (h : EvP B te Γ Pe) (k : ∀ d, Pe d → P.nx Γ) : Wp B (tDrop te) Γ P := fun F H σ D o e =>
  h F H σ o _ fun d v F1 H1 p g r hv => e.nx F1 H1 σ Γ g.ff (k d p) (o.grow g r)
theorem wp_if {c : TT} {t u : TS} {Pb : Bool → Prop} (h : EtP B c Γ Pb) (h1 : Pb true → Wp B t Γ P) (h2 : Pb false → Wp B u Γ P) : Wp B (tIfS c t u) Γ P := fun F H σ D o e =>
  h F H σ o _ fun b F1 H1 p g r => by
    cases b with
    | true =>
      show t D σ H1
      exact h1 p F1 H1 σ D (o.grow g r) (e.up g.ff)
    | false =>
      show u D σ H1
      exact h2 p F1 H1 σ D (o.grow g r) (e.up g.ff)
theorem wp_ifD {c : TT} {t u : TS} {b : Bool} (h : Et B c Γ b) (h1 : b = true → Wp B t Γ P) (h2 : b = false → Wp B u Γ P) : Wp B (tIfS c t u) Γ P := wp_if h (fun e => h1 e.symm) (fun e => h2 e.symm)
theorem wp_yes {c : TT} {t u : TS} (h : Et B c Γ true) (h1 : Wp B t Γ P) : Wp B (tIfS c t u) Γ P := wp_ifD h (fun _ => h1) fun z => nomatch z
theorem wp_no {c : TT} {t u : TS} (h : Et B c Γ false) (h1 : Wp B u Γ P) : Wp B (tIfS c t u) Γ P := wp_ifD h (fun z => nomatch z) fun _ => h1
/-- xs.append(e) -/
theorem wp_append {K : PySem.W.Frag} {te : TE} {i : Nat} {ds : List PyData} {Pe : PyData → Prop} (hi : Γ[i]? = some (.ml ds)) (h : EvP B te Γ Pe) (hz : ds.length < 100000) (k : ∀ d, Pe d → P.nx (Γ.set i (.ml (ds ++ [d])))) : Wp B (tDrop (tBM K "list" rAppend (tVar i) (tCons te tNil))) Γ P := fun F H σ D o e => by
  obtain ⟨l, xs, es, ha, h0, hf, hl, r⟩ := o.at_ i _ hi
  refine ⟨.ref l, slot_eq es, Or.inl ⟨rfl, _, SqL.of hl⟩, ?_⟩
  refine h F H σ o _ fun d v F1 H1 p g rw1 hv => ?_
  have o1 := o.grow g rw1
  have hl1 := g.hh _ _ ha hl
  refine ⟨l, xs, v, rfl, rfl, hl1, by rw [r.len, sizeLine_eq]; omega, ?_⟩
  refine e.nx F1 _ σ _ g.ff (k d p) (o1.write (s' := .ml (ds ++ [d])) hi rfl rfl es ⟨l, _, rfl, ha, h0, g.nf l (by rw [hl]; exact fun z => nomatch z) hf, upd_same, (r.mono g.ff).append (.cons hv .nil)⟩)
/-- name = xs.pop() -/
theorem wp_pop {K : PySem.W.Frag} {i j : Nat} {ds : List PyData} {d : PyData} (hi : Γ[i]? = some (.ml ds)) (hd : ds[ds.length - 1]? = some d) (hij : i ≠ j) (k : P.nx ((Γ.set i (.ml ds.dropLast)).set j (.im d))) : Wp B (tAsg (tBM0 K "list" rPop (tVar i)) (gName j)) Γ P := fun F H σ D o e => by
  obtain ⟨l, xs, es, ha, h0, hf, hl, r⟩ := o.at_ i _ hi
  obtain ⟨v, hv, rv⟩ := r.get hd
  refine ⟨.ref l, slot_eq es, Or.inl ⟨rfl, _, SqL.of hl⟩, l, xs, v, rfl, rfl, hl, by rw [r.len]; exact hv, ?_⟩
  have rd : DrA F xs.dropLast ds.dropLast := by
    rw [List.dropLast_eq_take, List.dropLast_eq_take, r.len]
    exact r.take _
  exact e.nx F _ _ _ (Same.refl F) k ((o.write (s' := .ml ds.dropLast) hi rfl rfl es ⟨l, _, rfl, ha, h0, hf, upd_same, rd⟩).setIm rv)
/-- xs[i] op= e -/
theorem wp_augS {K : PySem.W.Frag} {ti te : TE} {i : Nat} {ds : List PyData} {f : Int → Int → Int} {z a b : Int} {j : Nat} (hi : Γ[i]? = some (.ml ds)) (h1 : Ev B ti Γ (.int z)) (hz : 0 ≤ z ∧ z < 100000) (hj : ixN ds.length z = some j) (ha : ds[j]? = some (.int a)) (h2 : Ev B te Γ (.int b))
    (k : P.nx (Γ.set i (.ml (ds.set j (.int (f a b)))))) : Wp B (tAugS (tVar i) ti te (rGetL K) (ipI f) rSetL) Γ P := fun F H σ D o e => by
  obtain ⟨l, xs, es, hA, h0, hf, hl, r⟩ := o.at_ i _ hi
  refine ⟨.ref l, slot_eq es, ?_⟩
  refine h1 F H σ o _ fun dz y F1 H1 ez g1 r1 hy => ?_
  subst ez
  obtain rfl := hy.int_inv
  obtain ⟨v, hv, rv⟩ := r.get ha
  obtain rfl := rv.int_inv
  refine ⟨l, xs, z, .int a, rfl, rfl, hz.1, by omega, SqL.of (g1.hh _ _ hA hl), ?_, ?_⟩
  · unfold atI
    rw [r.len, hj]
    exact hv
  refine h2 F1 H1 σ (o.grow g1 r1) _ fun db y2 F2 H2 eb g2 r2 hy2 => ?_
  subst eb
  obtain rfl := hy2.int_inv
  have G2 := g1.trans g2
  have hl2 := G2.hh _ _ hA hl
  refine ⟨a, b, rfl, rfl, l, xs, z, j, rfl, rfl, hl2, by rw [r.len]; exact hj, ?_⟩
  exact e.nx F2 _ σ _ G2.ff k ((o.grow G2 r2).write (s' := .ml (ds.set j (.int (f a b)))) hi rfl rfl es ⟨l, _, rfl, hA, h0, G2.nf l (by rw [hl]; exact fun z => nomatch z) hf, upd_same, (r.mono G2.ff).set (.int _) j⟩)

/-! ### loops -/
abbrev Po.turn (P : Po) (I : List Sk → Prop) : Po := { nx := I, ct := I, bk := P.nx, rt := P.rt }
/-- the state ahead of turn i -/
def LpS (B : Bs) (F : Hp) (Inv : Nat → List Sk → Prop) (i : Nat) (σ : L2.St) (H : Hp) : Prop := ∃ F' Γ', Same F F' ∧ Own B F' H σ Γ' ∧ Inv i Γ'
theorem lp_turn {F H : Hp} {σ : L2.St} {D : Ends} {Inv : Nat → List Sk → Prop} {i : Nat} {d : PyData} {x : V} {g : TG} {tb : TS} (e : EndsOk B F P D) (hx : ∀ F', Same F F' → Dr F' x d)
    (hs : ∀ Γ', Inv i Γ' → TgP B g d Γ' (fun Γ2 => Wp B tb Γ2 (P.turn (Inv (i + 1))))) (p : LpS B F Inv i σ H) :
    g x σ H fun σ2 H2 => tb { D with nx := LpS B F Inv (i + 1), ct := LpS B F Inv (i + 1), bk := D.nx } σ2 H2 := by
  obtain ⟨F', Γ', s, o, inv⟩ := p
  refine hs Γ' inv F' H σ x o (hx F' s) _ fun σ2 F2 H2 Γ2 w s2 o2 => ?_
  refine w F2 H2 σ2 _ o2 ⟨fun F3 H3 σ3 Γ3 s3 n o3 => ⟨F3, Γ3, (s.trans s2).trans s3, o3, n⟩, fun d v F3 H3 s3 => e.rt d v F3 H3 ((s.trans s2).trans s3), fun F3 H3 σ3 Γ3 s3 n o3 => e.nx F3 H3 σ3 Γ3 ((s.trans s2).trans s3) n o3, fun F3 H3 σ3 Γ3 s3 n o3 => ⟨F3, Γ3, (s.trans s2).trans s3, o3, n⟩⟩
theorem wp_forL {K : PySem.W.Frag} {tl : TE} {g : TG} {tb : TS} {Pl : PyData → Prop} {ds : List PyData} (Inv : Nat → List Sk → Prop) (hl : Ev B tl Γ (.list ds)) (h0 : Inv 0 Γ)
    (hs : ∀ i d Γ', ds[i]? = some d → Inv i Γ' → TgP B g d Γ' (fun Γ2 => Wp B tb Γ2 (P.turn (Inv (i + 1))))) (hd : ∀ Γ', Inv ds.length Γ' → P.nx Γ') : Wp B (tFor (iList K tl) g tb) Γ P := fun F H σ D o e => by
  refine hl F H σ o _ fun d0 v F1 H1 e0 g1 r1 hv => ?_
  subst e0
  obtain ⟨a, xs, rfl, ha, r⟩ := hv.lst_inv
  have e1 := e.up g1.ff
  refine ⟨a, rfl, ⟨xs, SqL.of (g1.fh _ _ ha)⟩, for_list (xs := xs) (LpS B F1 Inv) ⟨F1, Γ, Same.refl _, o.grow g1 r1, h0⟩ (fun i σ' H' hi p => ?_) (fun i x σ' H' hi p => ?_) (fun σ' H' p => ?_)⟩
  · obtain ⟨F', Γ', s, o', _⟩ := p
    exact SqL.of (o'.fh _ _ (s _ _ ha))
  · obtain ⟨d, hd, hx⟩ := r.getV hi
    exact lp_turn e1 (fun F' s => hx.mono s) (fun Γ' inv => hs i d Γ' hd inv) p
  · obtain ⟨F', Γ', s, o', inv⟩ := p
    rw [r.len] at inv
    exact e1.nx F' H' σ' Γ' s (hd Γ' inv) o'
theorem wp_forT {K : PySem.W.Frag} {tl : TE} {g : TG} {tb : TS} {ds : List PyData} (Inv : Nat → List Sk → Prop) (hl : Ev B tl Γ (.tuple ds)) (h0 : Inv 0 Γ)
    (hs : ∀ i d Γ', ds[i]? = some d → Inv i Γ' → TgP B g d Γ' (fun Γ2 => Wp B tb Γ2 (P.turn (Inv (i + 1))))) (hd : ∀ Γ', Inv ds.length Γ' → P.nx Γ') : Wp B (tFor (iTup K tl) g tb) Γ P := fun F H σ D o e => by
  refine hl F H σ o _ fun d0 v F1 H1 e0 g1 r1 hv => ?_
  subst e0
  obtain ⟨a, xs, rfl, ha, r⟩ := hv.tup_inv
  have e1 := e.up g1.ff
  refine ⟨a, rfl, ⟨xs, SqT.of (g1.fh _ _ ha)⟩, for_tup (xs := xs) (LpS B F1 Inv) ⟨F1, Γ, Same.refl _, o.grow g1 r1, h0⟩ (fun i σ' H' hi p => ?_) (fun i x σ' H' hi p => ?_) (fun σ' H' p => ?_)⟩
  · obtain ⟨F', Γ', s, o', _⟩ := p
    exact SqT.of (o'.fh _ _ (s _ _ ha))
  · obtain ⟨d, hd, hx⟩ := r.getV hi
    exact lp_turn e1 (fun F' s => hx.mono s) (fun Γ' inv => hs i d Γ' hd inv) p
  · obtain ⟨F', Γ', s, o', inv⟩ := p
    rw [r.len] at inv
    exact e1.nx F' H' σ' Γ' s (hd Γ' inv) o'
theorem wp_forR1 {ta : TA} {g : TG} {tb : TS} {Pn : PyData → Prop} {n : Int} (Inv : Nat → List Sk → Prop) (hl : Ea B ta Γ [.int n]) (hn : -100000 ≤ n ∧ n ≤ 100000) (h0 : Inv 0 Γ)
    (hs : ∀ (i : Nat) Γ', (i : Int) < n → Inv i Γ' → TgP B g (.int (i : Int)) Γ' (fun Γ2 => Wp B tb Γ2 (P.turn (Inv (i + 1))))) (hd : ∀ Γ', Inv n.toNat Γ' → P.nx Γ') : Wp B (tFor (iRng1 ta) g tb) Γ P := fun F H σ D o e => by
  refine hl F H σ o _ fun d0 v F1 H1 e0 g1 r1 hv => ?_
  subst e0
  obtain ⟨w, rfl, hw⟩ := hv.one
  obtain rfl := hw.int_inv
  have e1 := e.up g1.ff
  refine ⟨n, rfl, by omega, by omega, for_range (lo := 0) (n := n.toNat) (LpS B F1 Inv) ⟨F1, Γ, Same.refl _, o.grow g1 r1, h0⟩ (fun i σ' H' hi p => ?_) (fun σ' H' p => ?_)⟩
  · have e0 : (0 : Int) + (i : Int) = (i : Int) := Int.zero_add _
    rw [e0]
    exact lp_turn e1 (fun F' s => .int _) (fun Γ' inv => hs i Γ' (by omega) inv) p
  · obtain ⟨F', Γ', s, o', inv⟩ := p
    exact e1.nx F' H' σ' Γ' s (hd Γ' inv) o'
/-- .. the bound told by a word -/
theorem wp_forR1P {ta : TA} {g : TG} {tb : TS} {Pn : Int → Prop} (Inv : Int → Nat → List Sk → Prop) (hl : EaP B ta Γ (fun ds => ∃ n, ds = [.int n] ∧ Pn n)) (hn : ∀ n, Pn n → -100000 ≤ n ∧ n ≤ 100000) (h0 : ∀ n, Pn n → Inv n 0 Γ)
    (hs : ∀ n (i : Nat) Γ', Pn n → (i : Int) < n → Inv n i Γ' → TgP B g (.int (i : Int)) Γ' (fun Γ2 => Wp B tb Γ2 (P.turn (Inv n (i + 1))))) (hd : ∀ n Γ', Pn n → Inv n n.toNat Γ' → P.nx Γ') : Wp B (tFor (iRng1 ta) g tb) Γ P := fun F H σ D o e => by
  refine hl F H σ o _ fun d0 v F1 H1 e0 g1 r1 hv => ?_
  obtain ⟨n, rfl, pn⟩ := e0
  obtain ⟨w, rfl, hw⟩ := hv.one
  obtain rfl := hw.int_inv
  have e1 := e.up g1.ff
  have hb := hn n pn
  refine ⟨n, rfl, by omega, by omega, for_range (lo := 0) (n := n.toNat) (LpS B F1 (Inv n)) ⟨F1, Γ, Same.refl _, o.grow g1 r1, h0 n pn⟩ (fun i σ' H' hi p => ?_) (fun σ' H' p => ?_)⟩
  · have e0 : (0 : Int) + (i : Int) = (i : Int) := Int.zero_add _
    rw [e0]
    exact lp_turn e1 (fun F' s => .int _) (fun Γ' inv => hs n i Γ' pn (by omega) inv) p
  · obtain ⟨F', Γ', s, o', inv⟩ := p
    exact e1.nx F' H' σ' Γ' s (hd n Γ' pn inv) o'
theorem wp_forR2 {ta : TA} {g : TG} {tb : TS} {lo n : Int} (Inv : Nat → List Sk → Prop) (hl : Ea B ta Γ [.int lo, .int n]) (hn : -100000 ≤ lo ∧ lo ≤ 100000 ∧ -100000 ≤ n ∧ n ≤ 100000) (h0 : Inv 0 Γ)
    (hs : ∀ (i : Nat) Γ', lo + (i : Int) < n → Inv i Γ' → TgP B g (.int (lo + (i : Nat))) Γ' (fun Γ2 => Wp B tb Γ2 (P.turn (Inv (i + 1))))) (hd : ∀ Γ', Inv (n - lo).toNat Γ' → P.nx Γ') : Wp B (tFor (iRng2 ta) g tb) Γ P := fun F H σ D o e => by
  refine hl F H σ o _ fun d0 v F1 H1 e0 g1 r1 hv => ?_
  subst e0
  obtain ⟨w, z, rfl, hw, hz⟩ := hv.two
  obtain rfl := hw.int_inv
  obtain rfl := hz.int_inv
  have e1 := e.up g1.ff
  refine ⟨lo, n, rfl, by omega, for_range (lo := lo) (n := (n - lo).toNat) (LpS B F1 Inv) ⟨F1, Γ, Same.refl _, o.grow g1 r1, h0⟩ (fun i σ' H' hi p => ?_) (fun σ' H' p => ?_)⟩
  · exact lp_turn e1 (fun F' s => .int _) (fun Γ' inv => hs i Γ' (by omega) inv) p
  · obtain ⟨F', Γ', s, o', inv⟩ := p
    exact e1.nx F' H' σ' Γ' s (hd Γ' inv) o'
/-- for i, x in enumerate(xs), xs a list -/
theorem wp_forE {K : PySem.W.Frag} {ta : TA} {g : TG} {tb : TS} {ds : List PyData} (Inv : Nat → List Sk → Prop) (hl : Ea B ta Γ [.list ds]) (h0 : Inv 0 Γ)
    (hs : ∀ (i : Nat) d Γ', ds[i]? = some d → Inv i Γ' → TgP B g (.tuple [.int (i : Int), d]) Γ' (fun Γ2 => Wp B tb Γ2 (P.turn (Inv (i + 1))))) (hd : ∀ Γ', Inv ds.length Γ' → P.nx Γ') : Wp B (tFor (iEnum K ta) g tb) Γ P := fun F H σ D o e => by
  refine hl F H σ o _ fun d0 v F1 H1 e0 g1 r1 hv => ?_
  subst e0
  obtain ⟨w, rfl, hw⟩ := hv.one
  obtain ⟨a, xs, rfl, ha, r⟩ := hw.lst_inv
  have e1 := e.up g1.ff
  refine ⟨a, xs, rfl, SqL.of (g1.fh _ _ ha), fun i m σ' H' => m = xs.length - i ∧ i ≤ xs.length ∧ LpS B F1 Inv i σ' H', ⟨xs.length, by simp, Nat.zero_le _, F1, Γ, Same.refl _, o.grow g1 r1, h0⟩, ?_⟩
  rintro i m σ' H' ⟨rfl, hi, p⟩
  have q : H' a = some (.lst xs) := by
    obtain ⟨F', Γ', s, o', _⟩ := p
    exact o'.fh _ _ (s _ _ ha)
  by_cases hlt : i < xs.length
  · refine .inr ⟨⟨xs, xs[i], SqL.of q, by simp [hlt]⟩, LpS B F1 Inv (i + 1), fun σ2 H2 p' => ⟨xs.length - (i + 1), by omega, rfl, hlt, p'⟩, fun x H2 y => ?_⟩
    obtain ⟨T, x', rfl, hT, rfl, hx'⟩ := y
    have ex := hx' xs (SqL.of q)
    obtain ⟨d, hd', hx⟩ := r.getV ex
    obtain ⟨F', Γ', s, o', inv⟩ := p
    have g2 : Gr [] F' H' (upd F' T (.tup [.int (i : Nat), x'])) (upd H' T (.tup [.int (i : Nat), x'])) := Gr.new o'.fh hT
    have o2 := o'.grow0 g2
    refine hs i d Γ' hd' inv _ _ σ' _ o2 (.tup upd_same (.cons (.int _) (.cons ((hx.mono s).mono g2.ff) .nil))) _ fun σ2 F2 H2 Γ2 w s2 o2 => ?_
    have S := (s.trans g2.ff).trans s2
    exact w F2 H2 σ2 _ o2 ⟨fun F3 H3 σ3 Γ3 s3 n o3 => ⟨F3, Γ3, S.trans s3, o3, n⟩, fun d v F3 H3 s3 => e1.rt d v F3 H3 (S.trans s3), fun F3 H3 σ3 Γ3 s3 n o3 => e1.nx F3 H3 σ3 Γ3 (S.trans s3) n o3, fun F3 H3 σ3 Γ3 s3 n o3 => ⟨F3, Γ3, S.trans s3, o3, n⟩⟩
  · have ei : i = xs.length := by omega
    subst ei
    refine .inl ⟨⟨xs, SqL.of q, Nat.le_refl _⟩, ?_⟩
    obtain ⟨F', Γ', s, o', inv⟩ := p
    rw [r.len] at inv
    exact e1.nx F' H' σ' Γ' s (hd Γ' inv) o'
theorem wp_while {c : TT} {tb : TS} (Inv : Nat → List Sk → Prop) (m0 : Nat) (h0 : Inv m0 Γ)
    (hs : ∀ m Γ', Inv m Γ' → ∃ Pb : Bool → Prop, EtP B c Γ' Pb ∧ (Pb true → Wp B tb Γ' (P.turn fun Γ2 => ∃ m', m' < m ∧ Inv m' Γ2)) ∧ (Pb false → P.nx Γ')) : Wp B (tWhile c tb) Γ P := fun F H σ D o e => by
  refine ⟨fun m σ' H' => LpS B F Inv m σ' H', ⟨m0, F, Γ, Same.refl F, o, h0⟩, fun m σ' H' p => ?_⟩
  obtain ⟨F', Γ', s, o', inv⟩ := p
  obtain ⟨Pb, ht, h1, h2⟩ := hs m Γ' inv
  refine ht F' H' σ' o' _ fun b F1 H1 pb g1 r1 => ?_
  have S := s.trans g1.ff
  have o1 := o'.grow g1 r1
  cases b with
  | true =>
    refine ⟨fun σ2 H2 => ∃ m', m' < m ∧ LpS B F Inv m' σ2 H2, fun σ2 H2 z => z, ?_⟩
    exact h1 pb F1 H1 σ' _ o1 ⟨fun F3 H3 σ3 Γ3 s3 ⟨m', lt, n⟩ o3 => ⟨m', lt, F3, Γ3, S.trans s3, o3, n⟩, fun d v F3 H3 s3 => e.rt d v F3 H3 (S.trans s3), fun F3 H3 σ3 Γ3 s3 n o3 => e.nx F3 H3 σ3 Γ3 (S.trans s3) n o3, fun F3 H3 σ3 Γ3 s3 ⟨m', lt, n⟩ o3 => ⟨m', lt, F3, Γ3, S.trans s3, o3, n⟩⟩
  | false => exact e.nx F1 H1 σ' Γ' S (h2 pb) o1

/-! ### defs -/
/-- a def that changes nothing: from data to data -/
def spP (pre : List PyData → Prop) (post : List PyData → PyData → Prop) : Sp := fun vs H Q _ => ∃ F ds, Same F H ∧ DrA F vs ds ∧ pre ds ∧ ∀ d v F' H', post ds d → Gr [] F H F' H' → Dr F' v d → Q v H'
/-- a def that draws from the row at its first argument -/
def spR (K : PySem.W.Frag) (pre : List PyData → Prop) (post : List PyData → PyData → Prop) : Sp := fun vs H Q _ => ∃ F a ws ds, vs = .ref a :: ws ∧ Same F H ∧ RowOk K F H a ∧ DrA F ws ds ∧ pre ds ∧
  ∀ d v F' H', post ds d → Gr [a] F H F' H' → RowOk K F' H' a → Dr F' v d → Q v H'
theorem evp_call {pre : List PyData → Prop} {post : List PyData → PyData → Prop} {t : TA} {E : XK} {Ps : List PyData → Prop} {Pd : PyData → Prop} (h : EaP B t Γ Ps) (k : ∀ ds, Ps ds → pre ds ∧ ∀ d, post ds d → Pd d) : EvP B (tCall (spP pre post) [] E t) Γ Pd := fun F H σ o Q q =>
  h F H σ o _ fun ds vs F1 H1 ps g r hv => by
    obtain ⟨k1, k2⟩ := k ds ps
    refine ⟨F1, ds, g.fh, by rw [List.append_nil]; exact hv, k1, fun d v F2 H2 pd g2 hd => ?_⟩
    exact q d v F2 H2 (k2 d pd) (g.trans (g2.weak fun _ h => nomatch h)) (fun a ha => (r a ha).gr0 g2) hd
theorem ev_call {pre : List PyData → Prop} {post : List PyData → PyData → Prop} {t : TA} {E : XK} {ds : List PyData} (h : Ea B t Γ ds) (k : pre ds) : EvP B (tCall (spP pre post) [] E t) Γ (post ds) := evp_call h fun ds' e => by rw [e]; exact ⟨k, fun d h => h⟩
theorem evp_callR {pre : List PyData → Prop} {post : List PyData → PyData → Prop} {t : TA} {E : XK} {i : Nat} {Ps : List PyData → Prop} {Pd : PyData → Prop} (hi : Γ[i]? = some .row) (h : EaP B t Γ Ps) (k : ∀ ds, Ps ds → pre ds ∧ ∀ d, post ds d → Pd d) :
    EvP B (tCall (spR B.K pre post) [] E (tCons (tVar i) t)) Γ Pd := fun F H σ o Q q => by
  obtain ⟨a, e, ha⟩ := o.at_ i _ hi
  refine ⟨.ref a, slot_eq e, ?_⟩
  refine h F H σ o _ fun ds vs F1 H1 ps g r hv => ?_
  obtain ⟨k1, k2⟩ := k ds ps
  refine ⟨F1, a, vs, ds, by rw [List.append_nil], g.fh, r a ha, hv, k1, fun d v F2 H2 pd g2 hr hd => ?_⟩
  have g2' := g2.weak (B := B.A) fun x hx => by rw [List.mem_singleton] at hx; rw [hx]; exact ha
  refine q d v F2 H2 (k2 d pd) (g.trans g2') (fun b hb => ?_) hd
  by_cases z : b = a
  · rw [z]
    exact hr
  · obtain ⟨f, S, ns, x, y, w, h, sq, bd⟩ := r b hb
    exact ⟨g2.nf b (by rw [h]; exact fun z => nomatch z) f, S, ns, x, y, w, g2.hh b _ (by simpa using z) h, g2.ff.seq sq, bd⟩
theorem start_own {K : PySem.W.Frag} {Pr : Program} {w : World} {A : List Addr} {F H : Hp} {vs : List V} {ss : List Sk} {N : List Str} (e : Same F H) (hr : ∀ a ∈ A, RowOk K F H a) (hs : ∀ (i : Nat) v s, vs[i]? = some v → ss[i]? = some s → SkOk ⟨Pr, w, K, A, F, H⟩ F H (some v) s ∧ s.mut = false) (hl : vs.length = ss.length) (hn : vs.length ≤ N.length) :
    Own ⟨Pr, w, K, A, F, H⟩ F H (start N vs) (ss ++ List.replicate (N.length - ss.length) .un) where
  gr := Gr.refl e
  len := by
    unfold L2.start
    simp [hl]
  at_ := fun i s h => by
    by_cases hi : i < ss.length
    · rw [List.getElem?_append_left hi] at h
      have hv : i < vs.length := by omega
      have e1 : slot (start N vs) i = some vs[i] := by
        refine slot_of ?_
        unfold L2.start
        rw [List.getElem?_append_left (by simpa using hv), List.getElem?_map, List.getElem?_eq_getElem hv]
        rfl
      rw [e1]
      exact (hs i _ s (List.getElem?_eq_getElem hv) h).1
    · rw [List.getElem?_append_right (by omega)] at h
      have : s = .un := by
        rw [List.getElem?_replicate] at h
        split at h
        · exact (Option.some.inj h).symm
        · cases h
      rw [this]
      trivial
  sep := fun i j s t x ne h1 h2 m1 m2 => by
    exfalso
    by_cases hi : i < ss.length
    · rw [List.getElem?_append_left hi] at h1
      have hv : i < vs.length := by omega
      have := (hs i _ s (List.getElem?_eq_getElem hv) h1).2
      rw [m1] at this
      cases this
    · rw [List.getElem?_append_right (by omega)] at h1
      rw [List.getElem?_replicate] at h1
      split at h1
      · cases h1
        cases m1
      · cases h1
  rows := hr
/-- the ends of a body -/
def Po.of (post : PyData → Prop) : Po := { nx := fun _ => post .none, rt := post }
theorem body_ok {K : PySem.W.Frag} {Pr : Program} {w : World} {N : List Str} {pre : List PyData → Prop} {post : List PyData → PyData → Prop} {t : TS} {vs : List V} {H : Hp} {Q : VK} {E : XK} {n : Nat} (hN : n ≤ N.length) (hlen : ∀ ds, pre ds → ds.length = n)
    (hw : ∀ (F0 : Hp) (ds : List PyData), pre ds → Wp ⟨Pr, w, K, [], F0, H⟩ t (ds.map Sk.im ++ List.replicate (N.length - n) .un) (Po.of (post ds))) (h : spP pre post vs H Q E) : t { nx := fun _ H' => Q .non H', rt := Q } (start N vs) H := by
  obtain ⟨F, ds, e, hd, hp, q⟩ := h
  have hl := hlen ds hp
  have o : Own ⟨Pr, w, K, [], F, H⟩ F H (start N vs) (ds.map Sk.im ++ List.replicate (N.length - (ds.map Sk.im).length) .un) := start_own e (fun a ha => nomatch ha) (fun i v s hv hs => by
    rw [List.getElem?_map] at hs
    cases z : ds[i]? with
    | none => rw [z] at hs; cases hs
    | some d =>
      rw [z] at hs
      cases hs
      obtain ⟨v', h1, h2⟩ := hd.get z
      rw [hv] at h1
      cases h1
      exact ⟨⟨v, rfl, h2⟩, rfl⟩) (by rw [hd.len, List.length_map]) (by rw [hd.len, hl]; exact hN)
  rw [List.length_map, hl] at o
  exact hw F ds hp F H _ _ o ⟨fun F' H' σ' Γ' s p o' => q .none .non F' H' p o'.gr .non, fun d v F' H' s p g _ hv => q d v F' H' p g hv, fun _ _ _ _ _ z => z.elim, fun _ _ _ _ _ z => z.elim⟩
theorem body_okR {K : PySem.W.Frag} {Pr : Program} {w : World} {N : List Str} {pre : List PyData → Prop} {post : List PyData → PyData → Prop} {t : TS} {vs : List V} {H : Hp} {Q : VK} {E : XK} {n : Nat} (hN : n + 1 ≤ N.length) (hlen : ∀ ds, pre ds → ds.length = n)
    (hw : ∀ (F0 : Hp) (a : Addr) (ds : List PyData), pre ds → Wp ⟨Pr, w, K, [a], F0, H⟩ t (.row :: ds.map Sk.im ++ List.replicate (N.length - (n + 1)) .un) (Po.of (post ds))) (h : spR K pre post vs H Q E) : t { nx := fun _ H' => Q .non H', rt := Q } (start N vs) H := by
  obtain ⟨F, a, ws, ds, rfl, e, hr, hd, hp, q⟩ := h
  have hl := hlen ds hp
  have o : Own ⟨Pr, w, K, [a], F, H⟩ F H (start N (.ref a :: ws)) ((.row :: ds.map Sk.im) ++ List.replicate (N.length - (Sk.row :: ds.map Sk.im).length) .un) := start_own e (fun b hb => by rw [List.mem_singleton] at hb; rw [hb]; exact hr) (fun i v s hv hs => by
    cases i with
    | zero =>
      simp at hv hs
      subst hv hs
      exact ⟨⟨a, rfl, by simp⟩, rfl⟩
    | succ i =>
      have hs : (ds.map Sk.im)[i]? = some s := by simpa using hs
      have hv : ws[i]? = some v := by simpa using hv
      rw [List.getElem?_map] at hs
      cases z : ds[i]? with
      | none => rw [z] at hs; cases hs
      | some d =>
        rw [z] at hs
        cases hs
        obtain ⟨v', h1, h2⟩ := hd.get z
        rw [hv] at h1
        cases h1
        exact ⟨⟨v, rfl, h2⟩, rfl⟩) (by rw [List.length_cons, List.length_cons, hd.len, List.length_map]) (by rw [List.length_cons, hd.len, hl]; exact hN)
  rw [List.length_cons, List.length_map, hl] at o
  exact hw F a ds hp F H _ _ o ⟨fun F' H' σ' Γ' s p o' => q .none .non F' H' p o'.gr (o'.rows a (by simp)) .non, fun d v F' H' s p g r hv => q d v F' H' p g (r a (by simp)) hv, fun _ _ _ _ _ z => z.elim, fun _ _ _ _ _ z => z.elim⟩
end Dl
set_option Elab.async false
set_option linter.all false
set_option maxRecDepth 100000
set_option maxHeartbeats 1000000
/-! Data layer 5: rules of the machine that the layer lacks (enumerate of a tuple, stores, looks in tuples, order of tuples, sorted of data). -/
namespace Dl
open PySem PySem.Spec PyProof.Rows L2

/-! ### the raw rule: enumerate over anything that begins -/
theorem meets_enum1 {v : Value} {o : Obj} {Hs : Heap → Prop} (Bg : Begins v o Hs) :
    Meets (Builtin.«enumerate.__new__» ⟨[.type "enumerate", v], []⟩) (fun _ R s => Hs s.heap ∧
      R (.ok (.ret (.ref (s.heap.push o).objs.size))) { s with heap := (s.heap.push o).push { cls := .type "enumerate", data := .fields #[.none, .bool false, .ref s.heap.objs.size, rawInt 0, .none, .none] } }) :=
  .of_wp fun prog w A R s ht => by
    obtain ⟨hp, gs, dr, tk, ost⟩ := s
    obtain ⟨hbegin, hend⟩ := ht
    have fsub := sub_enumerate
    have fit : ∀ {A' : Around} {E' : Value → Shared → Prop} {Q' : Value → Shared → Prop}, Q' (.ref hp.objs.size) ⟨hp.push o, gs, dr, tk, ost⟩ → wpAny (model prog w) A' (pyIter v) Q' E' ⟨hp, gs, dr, tk, ost⟩ :=
      fun z => Bg.iter prog w _ _ ⟨hp, gs, dr, tk, ost⟩ _ hbegin z
    wp_walk using fit
    refine wpAny_stack_any fun stk => wpAny_pure ?_
    split
    · rename_i cls0 _ _ _ _ _
      cases (cls0 == Value.type "enumerate") <;> (wp_walk using fit; exact ⟨_, rfl, hend⟩)
    · wp_walk using fit
      exact ⟨_, rfl, hend⟩
section
variable {prog : Program} {w : World} {A : Around} {E : Value → Shared → Prop} {s : Shared}
theorem call_enum1 {v : Value} {o : Obj} {Hs : Heap → Prop} {Q : Value → Shared → Prop} (Bg : Begins v o Hs) (h1 : Hs s.heap)
    (h : ∀ h2, IsEnum h2 (s.heap.objs.size + 1) s.heap.objs.size 0 .none → h2.get? s.heap.objs.size = some o → h2.objs.size = s.heap.objs.size + 2 →
      (∀ b ob, s.heap.get? b = some ob → h2.get? b = some ob) → Q (.ref (s.heap.objs.size + 1)) { s with heap := h2 }) :
    wpAny (model prog w) A (call (.type "enumerate") [v]) Q E s := by
  refine callType_new F.called_enumerate (by decide) (F.typeCall_enumerate_1 _) (F.newCall_enumerate_1 _) (fun obj => F.args_object_init_2 obj _) F.entry_enumerate_new (meets_enum1 Bg) ⟨h1, ?_⟩
  have sz : (s.heap.push o).objs.size = s.heap.objs.size + 1 := Heap.size_push ..
  show _ ∧ _
  rw [sz]
  have en : IsEnum ((s.heap.push o).push { cls := .type "enumerate", data := .fields #[.none, .bool false, .ref s.heap.objs.size, rawInt 0, .none, .none] }) (s.heap.objs.size + 1) s.heap.objs.size 0 .none := by
    have z := Heap.get?_push_size (s.heap.push o) (o := { cls := .type "enumerate", data := .fields #[.none, .bool false, .ref s.heap.objs.size, rawInt 0, .none, .none] }) rfl
    rw [sz] at z
    exact z
  exact ⟨⟨_, en, rfl⟩, h _ en (Heap.get?_push_of_some _ (Heap.get?_push_size _ Bg.free)) (by rw [Heap.size_push, sz]) fun b ob x => Heap.get?_push_of_some _ (Heap.get?_push_of_some _ x)⟩
end
/-- enumerate of the tuple at a: each item in a new pair -/
def IteT (K : PySem.W.Frag) (a : Addr) : It :=
  ⟨fun i H => ∃ (xs : List V) (x : V), SqT K H a xs ∧ xs[i]? = some x, fun i H v H' => ∃ T x, v = .ref T ∧ H T = none ∧ H' = upd H T (.tup [.int (i : Nat), x]) ∧ ∀ xs, SqT K H a xs → xs[i]? = some x, fun i H => ∃ xs : List V, SqT K H a xs ∧ xs.length = i⟩
theorem turn_enumT {P : Program} {w : World} {K : PySem.W.Frag} {elts : List Expr} {kk : Nat} {tpos : Pos} (a e it : Addr) :
    Turn P w K (.Tuple elts kk tpos) (IteT K a) [e, it] e (fun i h => (∃ old, IsEnum h e it ((i : Nat) : Int) old) ∧ h.IsTupleIter it a i ∧ e ≠ it) where
  mem := by simp
  obj := fun i h st b hb => by
    obtain ⟨⟨old, en⟩, ⟨o, ho, hc, hd⟩, _⟩ := st
    have two : b = e ∨ b = it := by simpa using hb
    rcases two with z | z
    · exact ⟨_, z ▸ en, fun v q => by cases q⟩
    · exact ⟨o, z ▸ ho, fun v q => by rw [hd] at q; cases q⟩
  keep := fun i h h2 st k => ⟨⟨st.1.choose, k e (by simp) _ st.1.choose_spec⟩, st.2.1.at fun o q => k it (by simp) o q, st.2.2⟩
  item := by
    intro X hP hw hK hc i pins s σ H E I hf st hg
    subst hP hw hK
    obtain ⟨⟨old, en⟩, hit, apart⟩ := st
    obtain ⟨xs, x, hq, hx⟩ := hg
    obtain ⟨its, rv, p, hz⟩ := I.tuple hq
    obtain ⟨u, hu, ru⟩ := rv.get hx
    have p' : s.heap.IsTuple a its.toArray := p
    have elt : e < s.heap.objs.size := Heap.lt_size en
    have itlt : it < s.heap.objs.size := by
      obtain ⟨_, q, _⟩ := hit
      exact Heap.lt_size q
    have ane : a ≠ it := fun z => by
      obtain ⟨o1, q1, c1, _⟩ := p'
      obtain ⟨o2, q2, c2, _⟩ := hit
      rw [z, q2] at q1
      cases q1
      rw [c2] at c1
      injection c1 with c3
      exact absurd c3 (by decide)
    have ane2 : a ≠ e := fun z => by
      obtain ⟨o1, q1, c1, _⟩ := p'
      rw [z, en] at q1
      cases q1
      injection c1 with c3
      exact absurd c3 (by decide)
    have D := Draws.tuple (prog := X.prog) (w := X.w) (A := X.A.in1) (I.ok.hd hc) it a ane its.toArray
    have lt : i < its.toArray.size := by
      have := (List.getElem?_eq_some_iff.mp hu).1
      simpa using this
    refine wpAny_pyNext_enum_itemD D en ⟨hit, p'⟩ lt apart (by simp [ane2.symm, apart]) fun y h2 tk hP ho st2 hT hsz hk => ?_
    have hy : y = u := by
      have q1 : its.toArray[i]? = some y := hP
      rw [List.getElem?_toArray, hu] at q1
      exact (Option.some.inj q1).symm
    subst hy
    refine ⟨_, rfl, wpAny_letOwnedTupleGo_enum (s := { s with heap := h2, toks := tk + 1 }) ho fun h3 en3 sb => ?_⟩
    have hT3 : h3.get? s.heap.objs.size = some { cls := .type "tuple", data := .seq #[.int i tk, y] } := (sb.2 _ (Nat.ne_of_gt elt)).trans hT
    have nw : ObjOk X.prog X.w (upd H s.heap.objs.size (.tup [.int (i : Nat), x])) h3 s.heap.objs.size (.tup [.int (i : Nat), x]) :=
      ⟨by show 2 ≤ sizeLine; decide, [.int i tk, y], .cons ⟨_, rfl⟩ (.cons ru .nil), ⟨_, hT3, rfl, _, rfl⟩⟩
    have I1 : Inv X pins σ (upd H s.heap.objs.size (.tup [.int (i : Nat), x])) { s with heap := h3, toks := tk + 1 } :=
      I.turnedNew (ch := [e, it]) (fun b ob hb q => (sb.2 b (fun z => hb (by simp [z]))).trans (hk b ob (fun z => hb (by simp [z])) (fun z => hb (by simp [z])) q)) hf (Nat.le_refl _) nw
    refine ⟨.ref s.heap.objs.size, _, I1, rfl, ⟨_, x, rfl, I.hok.fresh (Nat.le_refl _), rfl, fun ys hy => by rw [I.tuple_inj hy hq]; exact hx⟩, ⟨⟨y, ?_⟩, st2.1.at fun o q => (sb.2 it (Ne.symm apart)).trans q, apart⟩, fun b hb => ?_⟩
    · have one : ((i + 1 : Nat) : Int) = (i : Int) + 1 := by omega
      rw [one]
      exact en3
    · have two : b = e ∨ b = it := by simpa using hb
      have blt : b < s.heap.objs.size := by
        rcases two with z | z
        · exact z ▸ elt
        · exact z ▸ itlt
      rw [upd_ne (Nat.ne_of_lt blt)]
      exact (hf b hb).1
  done := by
    intro X hP hw hK hc i pins s σ H E I hf st hg
    subst hP hw hK
    obtain ⟨⟨old, en⟩, hit, apart⟩ := st
    obtain ⟨xs, hq, hx⟩ := hg
    obtain ⟨its, rv, p, hz⟩ := I.tuple hq
    have p' : s.heap.IsTuple a its.toArray := p
    obtain ⟨f0, f1, f2, f3, f4, f5⟩ := hf it (by simp)
    have hl := rv.length
    have ane : a ≠ it := fun z => by
      obtain ⟨o1, q1, c1, _⟩ := p'
      obtain ⟨o2, q2, c2, _⟩ := hit
      rw [z, q2] at q1
      cases q1
      rw [c2] at c1
      injection c1 with c3
      exact absurd c3 (by decide)
    have D := Draws.tuple (prog := X.prog) (w := X.w) (A := X.A.in1) (I.ok.hd hc) it a ane its.toArray
    have ei : its.toArray.size = i := by
      rw [List.size_toArray, ← hl]
      exact hx
    refine wpAny_pyNext_enum_endD D en (by rw [ei]; exact ⟨hit, p'⟩) fun h2 eb => ⟨rfl, I.turned (t' := s.toks) (fun b o hb q => eb b o hb q) f0 f1 f3 f4 f5⟩
  self := fun A i s Q E st h => wpAny_pyIter_enum st.1.choose_spec h
def iEnumT (K : PySem.W.Frag) (ta : TA) : TI := fun σ H R => ta σ H fun vs H1 => ∃ a xs, vs = [.ref a] ∧ SqT K H1 a xs ∧ R (IteT K a) H1
theorem pi_enumT {X : Cx} {e : Expr} {ta : TA} {p pos tpos : Pos} {elts : List Expr} {kk : Nat} (hg : Gl X "enumerate") (hm : X.mg "enumerate" = none) (ha : PA X [e] ta) (hs : starEach [e] X.env = [(false, eval e X.env)] := by rfl) :
    PI X (.Tuple elts kk tpos) (.Call (.Name "enumerate" p) [e] [] pos) (iEnumT X.K ta) := by
  refine ⟨fun pins s σ H R I h => ?_⟩
  refine Call_ (ld_blt I hg hm boot_enumerate (PyProof.Rows.callWith_type1 (thn (ha.run pos pins s σ H _ I h) fun us s1 ⟨vs, H1, I1, r1, q1⟩ => ?_) hs rfl))
  obtain ⟨a, xs, rfl, hq, q⟩ := q1
  cases r1 with
  | cons r tl =>
    cases tl
    cases r
    obtain ⟨its, rv, pt, hz⟩ := I1.tuple hq
    have pt' : s1.heap.IsTuple a its.toArray := pt
    refine call_enum1 (begins_tuple a its.toArray) pt' fun h2 en hit hsz hk => wpAny_pyIter_enum en ?_
    have I2 : Inv X pins σ H1 { s1 with heap := h2 } := I1.kept (t' := s1.toks) hk
    refine ⟨s1.heap.objs.size + 1, [s1.heap.objs.size + 1, s1.heap.objs.size], _, _, H1, rfl, I2, turn_enumT a (s1.heap.objs.size + 1) s1.heap.objs.size, ⟨⟨.none, en⟩, ⟨_, hit, rfl, rfl⟩, Nat.succ_ne_self _⟩, fun b hb => ?_, q⟩
    have two : b = s1.heap.objs.size + 1 ∨ b = s1.heap.objs.size := by simpa using hb
    have le : s1.heap.objs.size ≤ b := by
      rcases two with z | z
      · exact z ▸ Nat.le_add_right _ _
      · exact z ▸ Nat.le_refl _
    exact I1.fpOk le (I1.hok.fresh le)

section
variable {B : Bs} {Γ : List Sk} {P : Po}
/-- for i, x in enumerate(t), t a tuple -/
theorem wp_forET {K : PySem.W.Frag} {ta : TA} {g : TG} {tb : TS} {ds : List PyData} (Inv : Nat → List Sk → Prop) (hl : Ea B ta Γ [.tuple ds]) (h0 : Inv 0 Γ)
    (hs : ∀ (i : Nat) d Γ', ds[i]? = some d → Inv i Γ' → TgP B g (.tuple [.int (i : Int), d]) Γ' (fun Γ2 => Wp B tb Γ2 (P.turn (Inv (i + 1))))) (hd : ∀ Γ', Inv ds.length Γ' → P.nx Γ') : Wp B (tFor (iEnumT K ta) g tb) Γ P := fun F H σ D o e => by
  refine hl F H σ o _ fun d0 v F1 H1 e0 g1 r1 hv => ?_
  subst e0
  obtain ⟨w, rfl, hw⟩ := hv.one
  obtain ⟨a, xs, rfl, ha, r⟩ := hw.tup_inv
  have e1 := e.up g1.ff
  refine ⟨a, xs, rfl, SqT.of (g1.fh _ _ ha), fun i m σ' H' => m = xs.length - i ∧ i ≤ xs.length ∧ LpS B F1 Inv i σ' H', ⟨xs.length, by simp, Nat.zero_le _, F1, Γ, Same.refl _, o.grow g1 r1, h0⟩, ?_⟩
  rintro i m σ' H' ⟨rfl, hi, p⟩
  have q : H' a = some (.tup xs) := by
    obtain ⟨F', Γ', s, o', _⟩ := p
    exact o'.fh _ _ (s _ _ ha)
  by_cases hlt : i < xs.length
  · refine .inr ⟨⟨xs, xs[i], SqT.of q, by simp [hlt]⟩, LpS B F1 Inv (i + 1), fun σ2 H2 p' => ⟨xs.length - (i + 1), by omega, rfl, hlt, p'⟩, fun x H2 y => ?_⟩
    obtain ⟨T, x', rfl, hT, rfl, hx'⟩ := y
    have ex := hx' xs (SqT.of q)
    obtain ⟨d, hd', hx⟩ := r.getV ex
    obtain ⟨F', Γ', s, o', inv⟩ := p
    have g2 : Gr [] F' H' (upd F' T (.tup [.int (i : Nat), x'])) (upd H' T (.tup [.int (i : Nat), x'])) := Gr.new o'.fh hT
    have o2 := o'.grow0 g2
    refine hs i d Γ' hd' inv _ _ σ' _ o2 (.tup upd_same (.cons (.int _) (.cons ((hx.mono s).mono g2.ff) .nil))) _ fun σ2 F2 H2 Γ2 w s2 o2 => ?_
    have S := (s.trans g2.ff).trans s2
    exact w F2 H2 σ2 _ o2 ⟨fun F3 H3 σ3 Γ3 s3 n o3 => ⟨F3, Γ3, S.trans s3, o3, n⟩, fun d v F3 H3 s3 => e1.rt d v F3 H3 (S.trans s3), fun F3 H3 σ3 Γ3 s3 n o3 => e1.nx F3 H3 σ3 Γ3 (S.trans s3) n o3, fun F3 H3 σ3 Γ3 s3 n o3 => ⟨F3, Γ3, S.trans s3, o3, n⟩⟩
  · have ei : xs.length = i := by omega
    subst ei
    refine .inl ⟨⟨xs, SqT.of q, rfl⟩, ?_⟩
    obtain ⟨F', Γ', s, o', inv⟩ := p
    rw [r.len] at inv
    exact e1.nx F' H' σ' Γ' s (hd Γ' inv) o'
end

/-! ### stores and reads at places -/
section
variable {X : Cx}
theorem get_list : PGet X (rGetL X.K) := by
  intro pins s σ H o i ov iv Q I ro ri h
  obtain ⟨p, xs, k, v, rfl, rfl, h0, h62, hp, e, q⟩ := h
  cases ro
  obtain ⟨t, rfl⟩ := ri
  obtain ⟨its, r, pl, hz⟩ := I.list hp
  obtain ⟨j, h1, h2, h3, h4, h5⟩ := atI_get e
  obtain ⟨u, eu, ru⟩ := r.get h2
  have ej : k.toNat = j := by
    rw [seqIndex_of h0 h5] at h1
    exact Option.some.inj h1
  exact getItem_listL pl.isList h0 (by omega) (by rw [ej]; exact eu) ⟨v, H, I, ru, q⟩
theorem set_dict (hu : X.A.units + 1 < cLine) : PSet X rSetD := by
  intro pins s σ H o i v ov iv u Q I ro ri rv h
  obtain ⟨a, H', rfl, g, q⟩ := h
  cases ro
  exact d_setItem hu I g ri rv fun s' I' => ⟨H', I', q⟩
/-! ### looks in tuples, the order of tuples -/
def rNotInT (K : PySem.W.Frag) : R2 := fun x y H Q => ∃ d ds, Dp K H x d ∧ Dp K H y (.tuple ds) ∧ SeqAt.shaped d = true ∧ SeqAt.shaped (.tuple ds) = true ∧ Q (.bl (!ds.any fun z => PyData.eqv z d)) H
theorem op_notInT (hu : X.A.units + 65 < cLine) : OpR X (compareOp .NotIn) (rNotInT X.K) := by
  intro pins s σ H x y v u Q I rx ry h
  obtain ⟨d, ds, hd, he, sd, se, q⟩ := h
  obtain ⟨as, r1⟩ := Dp.reads I d x v hd rx
  obtain ⟨bs, r2⟩ := Dp.reads I (.tuple ds) y u he ry
  exact SeqAt.notIn_tuple_reads r2 r1 (SeqAt.canLay_of_shaped se) (SeqAt.canLay_of_shaped sd) (room_in_shaped sd hu) ⟨.bl _, H, I, rfl, q⟩
def rGtD (K : PySem.W.Frag) : R2 := fun x y H Q => ∃ d e, Dp K H x d ∧ Dp K H y e ∧ W.alike d e = true ∧ d ≠ .none ∧ d.depth ≤ 64 ∧ Q (.bl (W.dataLt e d)) H
theorem op_gtD (hu : X.A.units + 65 < cLine) : OpR X (compareOp .Gt) (rGtD X.K) := by
  intro pins s σ H x y v u Q I rx ry h
  obtain ⟨d, e, hd, he, al, nn, dp, q⟩ := h
  obtain ⟨as, r1⟩ := Dp.reads I d x v hd rx
  obtain ⟨bs, r2⟩ := Dp.reads I e y u he ry
  exact W.gt_data r1 r2 al nn (by omega) ⟨.bl _, H, I, rfl, q⟩
end
section
variable {B : Bs} {Γ : List Sk}
theorem opd_notInT {K : PySem.W.Frag} {n m : Nat} {d : PyData} {ds : List PyData} (ha : Pl n d = true) (hb : Pl m (.tuple ds) = true) (hn : n ≤ 64) (hm : m ≤ 64) : OpD (rNotInT K) d (.tuple ds) (fun z => z = .bool (!ds.any fun z => PyData.eqv z d)) :=
  opd_c fun F H x y e hx hy Q q => ⟨d, ds, (hx.mono e).dp n ha, (hy.mono e).dp m hb, ha.shaped hn, hb.shaped hm, q _ fun _ => .bl _⟩
theorem opd_gt2 {K : PySem.W.Frag} {n m : Nat} {d e : PyData} (ha : Pl n d = true) (hb : Pl m e = true) (hn : n ≤ 64) (al : W.alike d e = true) (nn : d ≠ .none) : OpD (rGtD K) d e (fun z => z = .bool (W.dataLt e d)) :=
  opd_c fun F H x y s hx hy Q q => ⟨d, e, (hx.mono s).dp n ha, (hy.mono s).dp m hb, al, nn, Nat.le_trans (Pl.shape n d ha).2 hn, q _ fun _ => .bl _⟩
end
end Dl
set_option Elab.async false
set_option linter.all false
set_option maxRecDepth 100000
set_option maxHeartbeats 1000000
/-! Data layer 6: dicts with nested keys, sorted of data. -/
namespace Dl
open PySem PySem.Spec PyProof.Rows L2

/-! ### keys -/
section
variable {X : Cx} {pins : List (Addr × Obj)} {σ : L2.St} {H : Hp} {s : Shared}
theorem nk_is (I : Inv X pins σ H s) : ∀ (n : Nat) {d : PyData} {v : V} {u : Value}, Tp n d = true → Dr H v d → RelV v u → NestedIs s.heap (nkOf d) u ∧ (nkOf d).depth ≤ n := by
  intro n
  induction n with
  | zero =>
    intro d v u p h r
    cases d with
    | int i =>
      obtain rfl := h.int_inv
      obtain ⟨t, rfl⟩ := r
      exact ⟨.int i t, Nat.zero_le _⟩
    | _ => simp [Tp] at p
  | succ n ih =>
    intro d v u p h r
    cases d with
    | int i =>
      obtain rfl := h.int_inv
      obtain ⟨t, rfl⟩ := r
      exact ⟨.int i t, Nat.zero_le _⟩
    | tuple ds =>
      obtain ⟨a, xs, rfl, ha, rx⟩ := h.tup_inv
      cases (show u = Value.ref a from r)
      obtain ⟨its, rv, ⟨o, ho, hc, m, hd⟩, _⟩ := I.tuple (SqT.of (K := X.K) ha)
      have all : ∀ {ds : List PyData} {xs : List V} {us : List Value}, ds.all (Tp n) = true → DrA H xs ds → Vals xs us → NestedAll s.heap (nksOf ds) us ∧ NestedKey.depthAll (nksOf ds) ≤ n := by
        intro ds
        induction ds with
        | nil =>
          intro xs us _ h r
          cases h
          cases r
          exact ⟨.nil, Nat.zero_le _⟩
        | cons d ds ih2 =>
          intro xs us p h r
          rw [List.all_cons, Bool.and_eq_true] at p
          cases h with
          | cons h1 h2 =>
            cases r with
            | cons r1 r2 =>
              obtain ⟨a1, a2⟩ := ih p.1 h1 r1
              obtain ⟨b1, b2⟩ := ih2 p.2 h2 r2
              refine ⟨.cons a1 b1, ?_⟩
              show max _ _ ≤ n
              omega
      obtain ⟨a1, a2⟩ := all (by simpa [Tp] using p) rx rv
      refine ⟨.tup ho hc hd (by simpa using a1), ?_⟩
      show NestedKey.depthAll (nksOf ds) + 1 ≤ n + 1
      omega
    | _ => simp [Tp] at p
theorem nk_key (I : Inv X pins σ H s) {d : PyData} {b : Addr} (p : Tp 7 d = true) (h : Dr H (.ref b) d) : (nestedKind X.prog X.w).is s.heap (nkOf d) b := by
  obtain ⟨h1, h2⟩ := nk_is I 7 p h (u := .ref b) rfl
  exact ⟨h1, by omega⟩
end

/-! ### the dict by its entries -/
theorem nxs_len : ∀ {L : List NEnt} {us : List Value}, L.length = us.length → (nxs L us).length = L.length
  | [], us, _ => by cases us <;> rfl
  | p :: L, u :: us, h => by
    show (nxs L us).length + 1 = _
    rw [nxs_len (by simpa using h), List.length_cons]
theorem nxs_keys : ∀ {L : List NEnt} {us : List Value}, L.length = us.length → (nxs L us).map (·.1) = L.map (fun p => nkOf p.2.1)
  | [], us, _ => by cases us <;> rfl
  | p :: L, u :: us, h => by
    show nkOf p.2.1 :: (nxs L us).map (·.1) = _
    rw [nxs_keys (by simpa using h), List.map_cons]
theorem nxs_snoc {b : Addr} {kd : PyData} {v : V} {r : Value} : ∀ {L : List NEnt} {us : List Value}, L.length = us.length → nxs (L ++ [(b, kd, v)]) (us ++ [r]) = nxs L us ++ [(nkOf kd, b, r)]
  | [], [], _ => rfl
  | p :: L, u :: us, h => by
    show _ :: nxs (L ++ _) (us ++ _) = _ :: (nxs L us ++ _)
    rw [nxs_snoc (by simpa using h)]
  | [], _ :: _, h => by simp at h
  | _ :: _, [], h => by simp at h
theorem nxs_mem : ∀ {L : List NEnt} {us : List Value} {x : NestedKey × Addr × Value}, x ∈ nxs L us → ∃ p ∈ L, x.1 = nkOf p.2.1 ∧ x.2.1 = p.1
  | [], us, x, h => by cases us <;> cases h
  | p :: L, [], x, h => by cases h
  | p :: L, u :: us, x, h => by
    rcases List.mem_cons.mp h with e | h
    · exact ⟨p, List.mem_cons_self, by rw [e], by rw [e]⟩
    · obtain ⟨q, hq, e⟩ := nxs_mem h
      exact ⟨q, List.mem_cons_of_mem _ hq, e⟩
theorem nxs_get : ∀ {L : List NEnt} {us : List Value} {i : Nat} {x : NestedKey × Addr × Value}, (nxs L us)[i]? = some x → ∃ p u, L[i]? = some p ∧ us[i]? = some u ∧ x = (nkOf p.2.1, p.1, u)
  | [], us, i, x, h => by cases us <;> simp [nxs] at h
  | p :: L, [], i, x, h => by simp [nxs] at h
  | p :: L, u :: us, 0, x, h => ⟨p, u, rfl, rfl, by simpa [nxs] using h.symm⟩
  | p :: L, u :: us, i + 1, x, h => by
    obtain ⟨q, w, h1, h2, h3⟩ := nxs_get (L := L) (us := us) (i := i) (by simpa [nxs] using h)
    exact ⟨q, w, by simpa using h1, by simpa using h2, h3⟩
/-- the value at a key -/
def nval (L : List NEnt) (kd : PyData) : Option V := (L.find? fun p => decide (nkOf p.2.1 = nkOf kd)).map (·.2.2)
theorem nval_at {kd : PyData} : ∀ {L : List NEnt} {us : List Value}, Vals (L.map (·.2.2)) us → RelO (nval L kd) ((atKey (nxs L us) (nkOf kd)).map (·.2))
  | [], us, h => by
    cases us
    · exact True.intro
    · cases h
  | p :: L, us, h => by
    rw [List.map_cons] at h
    cases h with
    | @cons _ u _ us r t =>
      by_cases e : nkOf p.2.1 = nkOf kd
      · have e1 : nval (p :: L) kd = some p.2.2 := by simp [nval, List.find?_cons, e]
        have e2 : (atKey (nxs (p :: L) (u :: us)) (nkOf kd)).map (·.2) = some u := by simp [nxs, atKey, List.find?_cons, e]
        rw [e1, e2]
        exact r
      · have e1 : nval (p :: L) kd = nval L kd := by simp [nval, List.find?_cons, e]
        have ih := nval_at (kd := kd) t
        rw [e1]
        simpa [nxs, atKey, List.find?_cons, e] using ih
theorem nxs_put {b : Addr} {kd : PyData} {v : V} {r : Value} (hr : RelV v r) {L : List NEnt} {us : List Value} (h : Vals (L.map (·.2.2)) us) :
    ∃ us', Vals ((nputL L b kd v).map (·.2.2)) us' ∧ nxs (nputL L b kd v) us' = storedH (nxs L us) (nkOf kd) b r := by
  have hl : L.length = us.length := by simpa using h.length
  unfold nputL
  have some_iff : (atKey (nxs L us) (nkOf kd)).isSome = true ↔ nkOf kd ∈ L.map (fun p => nkOf p.2.1) := by
    rw [← nxs_keys hl]
    unfold atKey
    rw [Option.isSome_map, List.find?_isSome]
    simp only [decide_eq_true_eq, List.mem_map]
  by_cases m : nkOf kd ∈ L.map (fun p => nkOf p.2.1)
  · rw [if_pos m]
    have e : storedH (nxs L us) (nkOf kd) b r = (nxs L us).map (putAt (nkOf kd) r) := by
      unfold storedH
      rw [if_pos (some_iff.mpr m)]
    rw [e]
    clear e some_iff m hl
    induction L generalizing us with
    | nil => cases us with
      | nil => exact ⟨[], .nil, rfl⟩
      | cons u us => cases h
    | cons p L ih =>
      rw [List.map_cons] at h
      cases h with
      | @cons _ u _ us r1 t =>
        obtain ⟨us', h1, h2⟩ := ih t
        by_cases e : nkOf p.2.1 = nkOf kd
        · refine ⟨r :: us', ?_, ?_⟩
          · rw [List.map_cons, if_pos e, List.map_cons]
            exact .cons hr h1
          · rw [List.map_cons, if_pos e]
            show _ :: nxs _ us' = putAt _ _ _ :: _
            rw [h2]
            simp [putAt, e]
        · refine ⟨u :: us', ?_, ?_⟩
          · rw [List.map_cons, if_neg e, List.map_cons]
            exact .cons r1 h1
          · rw [List.map_cons, if_neg e]
            show _ :: nxs _ us' = putAt _ _ _ :: _
            rw [h2]
            simp [putAt, e]
  · rw [if_neg m]
    have e : storedH (nxs L us) (nkOf kd) b r = nxs L us ++ [(nkOf kd, b, r)] := by
      unfold storedH
      rw [if_neg (fun z => m (some_iff.mp z))]
    refine ⟨us ++ [r], ?_, by rw [e]; exact nxs_snoc hl⟩
    rw [List.map_append]
    exact h.append (.cons hr .nil)

section
variable {X : Cx} {pins : List (Addr × Obj)} {σ : L2.St} {H : Hp} {s : Shared} {A : Around} {E : Value → Shared → Prop} {a : Addr} {L : List NEnt}
theorem dn_of (I : Inv X pins σ H s) (ha : H a = some (DnO X.prog X.w a L)) (hk : ∀ p ∈ L, Dr H (.ref p.1) p.2.1 ∧ Tp 7 p.2.1 = true) :
    ∃ us, Vals (L.map (·.2.2)) us ∧ s.heap.DictOfH (nestedKind X.prog X.w) a (nxs L us) ∧ (a == sysModules) = false := by
  obtain ⟨⟨us, o, es, ep, h1, h2, h3, h4, h5, h6, h7⟩, _, _⟩ := (show ObjOk X.prog X.w H s.heap a (DnO X.prog X.w a L) from I.hok a _ ha)
  have hl : L.length = us.length := by simpa using h1.length
  refine ⟨us, h1, ⟨o, es, ep, h2, h3, h4, h5, fun x hx => ?_, by rw [nxs_keys hl]; exact h6⟩, h7⟩
  obtain ⟨p, hp, e1, e2⟩ := nxs_mem hx
  rw [e1, e2]
  exact nk_key I (hk p hp).2 (hk p hp).1
theorem dn_ok {P : Program} {w : World} {H : Hp} {h : Heap} {us : List Value} (h1 : Vals (L.map (·.2.2)) us) (h2 : h.DictOfH (nestedKind P w) a (nxs L us)) (h7 : (a == sysModules) = false) : ObjOk P w H h a (DnO P w a L) := by
  have hl : L.length = us.length := by simpa using h1.length
  obtain ⟨o, es, ep, q1, q2, q3, q4, q5, q6⟩ := h2
  refine ⟨⟨us, o, es, ep, h1, q1, q2, q3, q4, by rw [← nxs_keys hl]; exact q6, h7⟩, ⟨o, q1⟩, ?_⟩
  rintro g1 g2 ⟨us, o, es, ep, h1, h2, h3⟩ k
  exact ⟨us, o, es, ep, h1, k _ h2, h3⟩
theorem pe_dnewN {pos : Pos} : PE X (.Dict [] [] pos) (tDNewN X.prog X.w) := ⟨fun pins s σ H Q I h => by
  have ns : (s.heap.objs.size == sysModules) = false := beq_eq_false_iff_ne.mpr (Ne.symm (Nat.ne_of_lt I.big))
  refine wpAny_Dict_empty ⟨.ref s.heap.objs.size, _, I.laid (a := s.heap.objs.size) (o := DnO X.prog X.w s.heap.objs.size []) (t' := s.toks) (fun _ _ q => Heap.get?_push_of_some _ q) (Nat.le_refl _) ?_, rfl, h _ (I.hok.fresh (Nat.le_refl _)) ns⟩
  exact dn_ok (us := []) .nil (Heap.DictOfH.new s.heap) ns⟩
theorem set_dn (hu : X.A.units + 65 < cLine) : PSet X (rSetN X.prog X.w) := by
  intro pins s σ H o i v ov iv u Q I ro ri rv h
  obtain ⟨a, b, L, kd, rfl, rfl, ha, hkd, hk, hz, hp, q⟩ := h
  cases ro
  cases ri
  obtain ⟨us, h1, h2, h7⟩ := dn_of I ha hk
  have hl : L.length = us.length := by simpa using h1.length
  obtain ⟨us', h1', e⟩ := nxs_put (b := b) (kd := kd) rv h1
  have rm : (nestedKind X.prog X.w).room X.A.in1 := by
    show X.A.in1.units + 8 < cLine
    rw [Around.in1_units]
    omega
  refine wpAny_setItem_heap (hsz := by rw [nxs_len hl, sizeLine_eq]; omega) rm (nk_key I hp hkd) h2 fun h' dd hs => ⟨_, ?_, q⟩
  have he : ∃ q, h'.get? a = some q := let ⟨q, _, _, hq, _⟩ := dd; ⟨q, hq⟩
  exact d_write I (by rw [ha]; exact True.intro) hs he (dn_ok h1' (by rw [e]; exact dd) h7)
/-- d.get(k, x), d with nested keys -/
def tNGet2 (P : Program) (w : World) (td ty tx : TE) : TE := fun σ H Q => td σ H fun x H1 => ∃ a L, x = .ref a ∧ H1 a = some (DnO P w a L) ∧ ty σ H1 fun y H2 => tx σ H2 fun z H3 => ∃ (b : Addr) (kd : PyData), H3 a = some (DnO P w a L) ∧ y = .ref b ∧ Dr H3 (.ref b) kd ∧ Tp 7 kd = true ∧
  (∀ p ∈ L, Dr H3 (.ref p.1) p.2.1 ∧ Tp 7 p.2.1 = true) ∧ Q ((nval L kd).getD z) H3
theorem pe_nget2 {o e f : Expr} {apos cpos : Pos} {td ty tx : TE} (hu : X.A.units + 65 < cLine) (ho : PE X o td) (he : PE X e ty) (hf : PE X f tx) (m : M2 X o "get" apos e f cpos) : PE X (.Call (.Attribute o "get" apos) [e, f] [] cpos) (tNGet2 X.prog X.w td ty tx) := by
  refine ⟨fun pins s σ H Q I h => ?_⟩
  refine wpAny_Call_method m.base m.few m.line PySem.F.plainAttrs_dict PySem.F.slot_dict_get PySem.F.type_dict_get (thn (ho.run pins s σ H _ I h) fun u s1 ⟨x, H1, I1, rx, a, L, ex, hd, q1⟩ => ?_)
  subst ex
  obtain rfl : u = Value.ref a := rx
  have dty : ∃ ob : Obj, s1.heap.get? a = some ob ∧ ob.ExactDict := by
    obtain ⟨⟨us, o, es, ep, h1, h2, h3, h4, h5, h6, h7⟩, _, _⟩ := (show ObjOk X.prog X.w H1 s1.heap a (DnO X.prog X.w a L) from I1.hok a _ hd)
    exact ⟨o, h2, h3⟩
  obtain ⟨ob, g1, g2⟩ := dty
  refine ⟨⟨ob, g1, g2.1⟩, fun b q => ?_, ?_⟩
  · cases q
    exact ⟨ob, g1, g2.2.1⟩
  rw [m.trees]
  refine Calls.callWith_builtin rfl (Calls.evalArgs_plain (Calls.spliced_cons (thn (he.run pins s1 σ H1 _ I1 q1) fun iv s2 ⟨y, H2, I2, ry, q2⟩ =>
    Calls.spliced_cons (thn (hf.run pins s2 σ H2 _ I2 q2) fun fv s3 ⟨z, H3, I3, rz, b, kd, ha, ey, hkd, hp, hk, q3⟩ => Calls.spliced_nil ?_))))
  subst ey
  cases ry
  obtain ⟨us, h1, h2, h7⟩ := dn_of I3 ha hk
  have rm : (nestedKind X.prog X.w).room X.A.in1 := by
    show X.A.in1.units + 8 < cLine
    rw [Around.in1_units]
    omega
  refine call_meetsIn PySem.F.slot_dict_get h2.typeIs PySem.F.entry_dict_get (PySem.F.args_dict_get_3 _ _ _) (meetsH_dict_get_default (nestedKind X.prog X.w) a b h7 fv) ⟨rm, nkOf kd, nxs L us, nk_key I3 hp hkd, h2, ?_⟩
  exact ⟨_, H3, I3.tok _, (nval_at (kd := kd) h1).getD rz, q3⟩
end
end Dl
set_option Elab.async false
set_option linter.all false
set_option maxRecDepth 100000
set_option maxHeartbeats 1000000
/-! Data layer 7: sorted of lists of tuples, of a dict's keys; len of a dict. -/
namespace Dl
open PySem PySem.Spec PyProof.Rows L2
section
variable {X : Cx} {pins : List (Addr × Obj)} {σ : L2.St} {H : Hp} {s : Shared}
theorem tp_reads (I : Inv X pins σ H s) : ∀ (n : Nat) {d : PyData} {v : V} {u : Value}, Tp n d = true → Dr H v d → RelV v u → Reads s.heap u d [] := by
  intro n
  induction n with
  | zero =>
    intro d v u p h r
    cases d with
    | int i =>
      obtain rfl := h.int_inv
      obtain ⟨t, rfl⟩ := r
      exact .int i t
    | _ => simp [Tp] at p
  | succ n ih =>
    intro d v u p h r
    cases d with
    | int i =>
      obtain rfl := h.int_inv
      obtain ⟨t, rfl⟩ := r
      exact .int i t
    | tuple ds =>
      obtain ⟨a, xs, rfl, ha, rx⟩ := h.tup_inv
      cases (show u = Value.ref a from r)
      obtain ⟨its, rv, ⟨o, ho, hc, m, hd⟩, _⟩ := I.tuple (SqT.of (K := X.K) ha)
      have all : ∀ {ds : List PyData} {xs : List V} {us : List Value}, ds.all (Tp n) = true → DrA H xs ds → Vals xs us → ReadsAll s.heap us ds [] := by
        intro ds
        induction ds with
        | nil =>
          intro xs us _ h r
          cases h
          cases r
          exact .nil
        | cons d ds ih2 =>
          intro xs us p h r
          rw [List.all_cons, Bool.and_eq_true] at p
          cases h with
          | cons h1 h2 =>
            cases r with
            | cons r1 r2 => exact .cons (ih p.1 h1 r1) (ih2 p.2 h2 r2)
      exact .tuple ho hc hd (by simpa using all (by simpa [Tp] using p) rx rv)
    | _ => simp [Tp] at p
/-- what may be sorted here: tuples of ints and such tuples, of one shape, none of them empty -/
structure SrtOk (ds : List PyData) : Prop where
  al : W.AllAlike ds
  ok : ∀ d ∈ ds, Tp 7 d = true ∧ ∃ x r, d = .tuple (x :: r)
theorem SrtOk.sortable {ds : List PyData} (h : SrtOk ds) : W.Sortable ds := .inl fun d hd => (h.ok d hd).2
/-- values, what they are, as one list -/
theorem each_of (I : Inv X pins σ H s) : ∀ {xs : List V} {ds : List PyData} {us : List Value}, DrA H xs ds → Vals xs us → (∀ d ∈ ds, Tp 7 d = true) →
    W.EachIs (fun u (b : V × PyData) => RelV b.1 u ∧ Dr H b.1 b.2) us (xs.zip ds) ∧ W.EachIs (fun u (b : V × PyData) => Reads s.heap u b.2 []) us (xs.zip ds)
  | _, _, _, .nil, .nil, _ => ⟨.nil, .nil⟩
  | _, _, _, .cons h1 h2, .cons r1 r2, p => by
    obtain ⟨a, b⟩ := each_of I h2 r2 fun d hd => p d (List.mem_cons_of_mem _ hd)
    exact ⟨.cons ⟨r1, h1⟩ a, .cons (tp_reads I 7 (p _ List.mem_cons_self) h1 r1) b⟩
theorem each_back : ∀ {us : List Value} {bs : List (V × PyData)}, W.EachIs (fun u (b : V × PyData) => RelV b.1 u ∧ Dr H b.1 b.2) us bs → Vals (bs.map (·.1)) us ∧ DrA H (bs.map (·.1)) (bs.map (·.2))
  | _, _, .nil => ⟨.nil, .nil⟩
  | _, _, .cons h t => ⟨.cons h.1 (each_back t).1, .cons h.2 (each_back t).2⟩
theorem zip_snd {F : Hp} : ∀ {xs : List V} {ds : List PyData}, DrA F xs ds → (xs.zip ds).map (·.2) = ds
  | _, _, .nil => rfl
  | _, _, .cons h t => congrArg (_ :: ·) (zip_snd t)
theorem hu_of65 {k : Nat} {A : Around} (r : Room k A) : A.units + 65 < cLine := by have := r.un; omega
theorem hu_of {k : Nat} {A : Around} (r : Room k A) : A.units + 1 < cLine := by have := r.un; omega
/-- sorted(xs) -/
def rSortD (K : PySem.W.Frag) : List V → Hp → VK → Prop := fun vs H Q => ∃ (a : Addr) (xs : List V) (ds : List PyData), vs = [V.ref a] ∧ SqL K H a xs ∧ DrA H xs ds ∧ SrtOk ds ∧ ds.length < 100000 ∧
  ∀ (bs : List (V × PyData)) (p : Addr), bs.Perm (xs.zip ds) → H p = none → Q (.ref p) (upd H p (.lst (bs.map (·.1))))
theorem cr_sortD {k : Nat} (hr : Room k X.A) : CallR X (.builtin "sorted") (rSortD X.K) := by
  intro pins s σ H vs us Q I r h
  obtain ⟨a, xs, ds, rfl, hs, hd, so, hz, q⟩ := h
  obtain ⟨its, rv, hl, _⟩ := I.list hs
  rw [Vals.ref1 r]
  obtain ⟨e1, e2⟩ := each_of I hd rv fun d hd => (so.ok d hd).1
  have em : (xs.zip ds).map (·.2) = ds := zip_snd hd
  have lz : (xs.zip ds).length = ds.length := by rw [← List.length_map (f := (·.2)), em]
  have hu := hu_of65 hr
  refine W.sorted_data (enc := fun b : V × PyData => b.2) hl.isList e1 (e2.mono fun _ _ h => ⟨[], h⟩) (by rw [em]; exact so.al) (by rw [em]; exact so.sortable) (by rw [lz, sizeLine_eq]; omega) (fun b hb => ?_) fun out h1 h2 => ?_
  · have hb' : b.2 ∈ ds := by rw [← em]; exact List.mem_map.mpr ⟨b, hb, rfl⟩
    have := (Pl.shape 7 b.2 (Tp.pl 7 _ (so.ok _ hb').1)).2
    omega
  · obtain ⟨b1, b2⟩ := each_back h2
    obtain ⟨ep, he'⟩ := PyProof.Rows.sortedAll_at s.heap its out.toArray
    have pm : ((xs.zip ds).mergeSort (W.dataLe false fun b : V × PyData => b.2)).Perm (xs.zip ds) := List.mergeSort_perm _ _
    refine ⟨.ref _, upd H (s.heap.objs.size + 1) (.lst _), I.laid (t' := s.toks) (fun _ _ => PyProof.Rows.sortedAll_old) (Nat.le_succ _) ⟨?_, out, ep, b1, he'⟩, rfl, q _ _ pm (I.hok.fresh (Nat.le_succ _))⟩
    rw [List.length_map, pm.length_eq, lz, sizeLine_eq]
    omega

/-! ### d.keys() of a dict with nested keys -/
def keysO (p d : Addr) : HO := .ext fun h => W.KdlKeysView h p d
def tKeysN (P : Program) (w : World) (td : TE) : TE := fun σ H Q => td σ H fun x H1 => ∃ a L, x = .ref a ∧ H1 a = some (DnO P w a L) ∧ ∀ p, H1 p = none → Q (.ref p) (upd H1 p (keysO p a))
theorem dn_raw (I : Inv X pins σ H s) {a : Addr} {L : List NEnt} (ha : H a = some (DnO X.prog X.w a L)) :
    ∃ (es : Array DictEntry) (ep : Nat) (us : List Value), s.heap.DictRaw a es ep ∧ Vals (L.map (·.2.2)) us ∧ es.toList = (nxs L us).map (entryOfKey (nestedKind X.prog X.w)) ∧ (a == sysModules) = false ∧ ∃ ob : Obj, s.heap.get? a = some ob ∧ ob.ExactDict := by
  obtain ⟨⟨us, o, es, ep, h1, h2, h3, h4, h5, h6, h7⟩, _, _⟩ := (show ObjOk X.prog X.w H s.heap a (DnO X.prog X.w a L) from I.hok a _ ha)
  exact ⟨es, ep, us, ⟨o, h2, h3, h4⟩, h1, h5, h7, o, h2, h3⟩
theorem pe_keysN {e : Expr} {apos cpos : Pos} {td : TE} (he : PE X e td) (hbase : attributeBase e "keys" X.env (eval e X.env) = eval e X.env := by rfl) (hline : (apos.endLine == cpos.line) = true := by rfl) : PE X (.Call (.Attribute e "keys" apos) [] [] cpos) (tKeysN X.prog X.w td) := by
  refine ⟨fun pins s σ H Q I h => ?_⟩
  refine wpAny_Call_method hbase rfl hline (T := "dict") (id := "dict.keys") F.plainAttrs_dict F.slot_dict_keys F.type_dict_keys (thn (he.run pins s σ H _ I h) fun u s1 ⟨x, H1, I1, rx, a, L, ex, hd, q⟩ => ?_)
  subst ex
  obtain rfl : u = Value.ref a := rx
  obtain ⟨es, ep, us, hraw, _, _, h7, ob, g1, g2⟩ := dn_raw I1 hd
  refine ⟨⟨ob, g1, g2.1⟩, fun b q => ?_, ?_⟩
  · cases q
    exact ⟨ob, g1, g2.2.1⟩
  show wpAny _ _ (callWith cpos (.builtin "dict.keys") [.ref a] [] []) _ X.xe s1
  refine method_meetsIn F.slot_dict_keys F.entry_dict_keys rfl (PySem.evalArgs_none ⟨rfl, ⟨ob, g1, g2.1⟩, F.args_dict_keys_1 _, _, meets_dict_keys_raw a h7, ⟨es, ep, hraw⟩, ?_⟩)
  have kv : W.KdlKeysView (s1.heap.push { cls := .type "dict_keys", data := .fields #[.ref a] }) s1.heap.objs.size a := ⟨_, Heap.get?_push_size _ rfl, rfl, rfl⟩
  refine ⟨.ref s1.heap.objs.size, _, I1.laid (o := keysO s1.heap.objs.size a) (t' := s1.toks) (fun _ _ q => Heap.get?_push_of_some _ q) (Nat.le_refl _) ⟨kv, ⟨_, Heap.get?_push_size _ rfl⟩, ?_⟩, rfl, q _ (I1.hok.fresh (Nat.le_refl _))⟩
  rintro g1 g2 ⟨o, ho, hx⟩ k
  exact ⟨o, k _ ho, hx⟩
/-- sorted(d.keys()) -/
def rSortK (P : Program) (w : World) : List V → Hp → VK → Prop := fun vs H Q => ∃ (p a : Addr) (L : List NEnt), vs = [V.ref p] ∧ H p = some (keysO p a) ∧ H a = some (DnO P w a L) ∧ (∀ x ∈ L, Dr H (.ref x.1) x.2.1) ∧ SrtOk (L.map (·.2.1)) ∧ L.length < 100000 ∧
  ∀ (bs : List (V × PyData)) (l : Addr), bs.Perm (L.map fun x => (V.ref x.1, x.2.1)) → H l = none → Q (.ref l) (upd H l (.lst (bs.map (·.1))))
theorem drA_keys : ∀ {L : List NEnt}, (∀ x ∈ L, Dr H (.ref x.1) x.2.1) → DrA H (L.map fun x => V.ref x.1) (L.map (·.2.1))
  | [], _ => .nil
  | x :: L, h => .cons (h x List.mem_cons_self) (drA_keys fun y hy => h y (List.mem_cons_of_mem _ hy))
theorem vals_keys : ∀ (L : List NEnt), Vals (L.map fun x => V.ref x.1) (L.map fun x => Value.ref x.1)
  | [] => .nil
  | x :: L => .cons rfl (vals_keys L)
theorem zip_map2 : ∀ L : List NEnt, (L.map fun x => V.ref x.1).zip (L.map (·.2.1)) = L.map fun x => (V.ref x.1, x.2.1)
  | [] => rfl
  | x :: L => congrArg (_ :: ·) (zip_map2 L)
theorem cr_sortK {k : Nat} (hr : Room k X.A) : CallR X (.builtin "sorted") (rSortK X.prog X.w) := by
  intro pins s σ H vs us Q I r h
  obtain ⟨p, a, L, rfl, hp, ha, hk, so, hz, q⟩ := h
  rw [Vals.ref1 r]
  have view : W.KdlKeysView s.heap p a := (show ObjOk X.prog X.w H s.heap p (keysO p a) from I.hok p _ hp).1
  obtain ⟨es, ep, us, hraw, hv, hes, h7, _⟩ := dn_raw I ha
  have hlu : L.length = us.length := by simpa using hv.length
  have hsz : es.size = L.length := by
    have := congrArg List.length hes
    rw [List.length_map, nxs_len hlu, Array.length_toList] at this
    exact this
  have hu := hu_of65 hr
  refine PySem.Calls.call_function_entry kind_sorted plain_sorted entry_sorted (args_sorted1 _) (?_ : wpAny _ _ (Builtin.«sorted» _) _ _ _)
  unfold Builtin.«sorted»
  refine wpAny_bind (m := checkCount "sorted" 1 1 _) (wpAny_pure ?_)
  refine wpAny_bind (W.kdu_collect (A := X.A.in1) (PySem.KdlSrc.rawKeys (r := p) (d := a) (es := es) (ep := ep)) hr.hd ⟨view, hraw⟩ (by rw [hsz, sizeLine_eq]; omega) fun h' tk acc hk' hacc => ?_)
  have accE : acc.toList = L.map fun x => Value.ref x.1 := by
    refine List.ext_getElem? fun i => ?_
    by_cases hi : i < es.size
    · have hi1 : i < acc.size := by rw [hacc.1]; exact hi
      obtain ⟨hi2, e⟩ := hacc.2 i acc[i] (by simp [hi1])
      have e1 : (nxs L us)[i]? = some ((nxs L us)[i]'(by rw [nxs_len hlu, ← hsz]; exact hi)) := List.getElem?_eq_getElem _
      obtain ⟨x, u, h1, h2, h3⟩ := nxs_get e1
      have e2 : es.toList[i]? = some (entryOfKey (nestedKind X.prog X.w) (nkOf x.2.1, x.1, u)) := by rw [hes, List.getElem?_map, e1, h3]; rfl
      rw [Array.getElem?_toList, Array.getElem?_eq_getElem hi] at e2
      rw [List.getElem?_map, h1, Array.getElem?_toList, Array.getElem?_eq_getElem hi1, e, Option.some.inj e2]
      rfl
    · rw [List.getElem?_eq_none (by rw [Array.length_toList, hacc.1]; omega), List.getElem?_eq_none (by rw [List.length_map]; omega)]
  have hlen : acc.toList.length = L.length := by rw [accE, List.length_map]
  refine wpAny_bind (wpAny_newList ?_ (by rw [hlen, sizeLine_eq]; omega))
  obtain ⟨e1, e2⟩ := each_of I (drA_keys hk) (vals_keys L) fun d hd => (so.ok d hd).1
  rw [← accE] at e1 e2
  generalize hbs : (L.map fun x => V.ref x.1).zip (L.map (·.2.1)) = bs at e1 e2
  have em : bs.map (·.2) = L.map (·.2.1) := by rw [← hbs]; exact zip_snd (drA_keys hk)
  have lz : bs.length = L.length := by rw [← List.length_map (f := (·.2)), em, List.length_map]
  have hob : (h'.push { cls := .type "list", data := .seq acc.toList.toArray }).get? h'.objs.size = some (seqObj "list" acc.toList.toArray 0) := Heap.get?_push_size _ rfl
  have kb : ∀ b o, s.heap.get? b = some o → (h'.push { cls := .type "list", data := .seq acc.toList.toArray }).get? b = some o := fun b o e => Heap.get?_push_of_some _ (hk' b o e)
  refine wpAny_bind (wpAny_holding (wpAny_mono (W.list_sort_data (A := X.A.in1) (s := { s with heap := h'.push { cls := .type "list", data := .seq acc.toList.toArray }, toks := tk }) (enc := fun b : V × PyData => b.2)
    (Q := fun _ s' => EP X pins σ Q (.ref h'.objs.size) s') hob e1 (e2.mono fun _ _ h => ⟨[], PyProof.Rows.Reads.keeps kb h, by simp⟩) (by rw [em]; exact so.al) (by rw [em]; exact so.sortable) (by rw [lz, sizeLine_eq]; omega) (fun b hb => ?_) fun out h1 h2 => ?_) (fun _ s' x => wpAny_pure ⟨_, rfl, x⟩) fun _ _ e => e))
  · have hb' : b.2 ∈ L.map (·.2.1) := by rw [← em]; exact List.mem_map.mpr ⟨b, hb, rfl⟩
    have := (Pl.shape 7 b.2 (Tp.pl 7 _ (so.ok _ hb').1)).2
    show X.A.units + 1 + 1 + _ < _
    omega
  · obtain ⟨b1, b2⟩ := each_back h2
    obtain ⟨ep', he'⟩ := PyProof.Rows.sortedHeap_at (vs := acc.toList) (out := out.toArray) hob
    have pm : (bs.mergeSort (W.dataLe false fun b : V × PyData => b.2)).Perm bs := List.mergeSort_perm _ _
    have pe : bs.Perm (L.map fun x => (V.ref x.1, x.2.1)) := by
      rw [← hbs]
      exact List.Perm.of_eq (zip_map2 L)
    have fr : s.heap.get? h'.objs.size = none := by
      cases z : s.heap.get? h'.objs.size with
      | none => rfl
      | some o => exact absurd (Heap.lt_size (hk' _ _ z)) (Nat.lt_irrefl _)
    have fH := I.hok.gone fr
    refine ⟨.ref _, upd H h'.objs.size (.lst _), I.laidN (fun b o z => ?_) fr fH ⟨?_, out, ep', b1, he'⟩, rfl, q _ _ (pm.trans pe) fH⟩
    · have lt : b < h'.objs.size := Heap.lt_size (hk' b o z)
      show (sortedHeap _ _ _ _).get? b = some o
      rw [PyProof.Rows.sortedHeap_old (Nat.ne_of_lt lt) (by rw [Heap.size_push]; exact Nat.lt_succ_of_lt lt)]
      exact kb b o z
    · rw [List.length_map, pm.length_eq, lz, sizeLine_eq]
      omega
theorem pe_sortKeys {e : Expr} {td : TE} {k : Nat} {p pos apos cpos : Pos} (hr : Room k X.A) (he : PE X e td) (hg : Gl X "sorted") (hm : X.mg "sorted" = none) (hbase : attributeBase e "keys" X.env (eval e X.env) = eval e X.env := by rfl) (hline : (apos.endLine == cpos.line) = true := by rfl)
    (hs : starEach [.Call (.Attribute e "keys" apos) [] [] cpos] X.env = [(false, eval (.Call (.Attribute e "keys" apos) [] [] cpos) X.env)] := by rfl) :
    PE X (.Call (.Name "sorted" p) [.Call (.Attribute e "keys" apos) [] [] cpos] [] pos) (tCB (rSortK X.prog X.w) (tCons (tKeysN X.prog X.w td) tNil)) :=
  pe_callB (cr_sortK hr) hg hm (by decide +kernel) (pa_cons (pe_keysN he hbase hline) pa_nil) (by decide) (by decide) hs

end
end Dl
set_option Elab.async false
set_option linter.all false
set_option maxRecDepth 100000
set_option maxHeartbeats 1000000
/-! Data layer 8: what Dl6 and Dl7 tell, by data. -/
namespace Dl
open PySem PySem.Spec PyProof.Rows L2
variable {B : Bs} {Γ : List Sk}
theorem drA_of {F : Hp} : ∀ {bs : List (V × PyData)}, (∀ b ∈ bs, Dr F b.1 b.2) → DrA F (bs.map (·.1)) (bs.map (·.2))
  | [], _ => .nil
  | b :: bs, h => .cons (h b List.mem_cons_self) (drA_of fun c hc => h c (List.mem_cons_of_mem _ hc))
theorem drA_zip {F : Hp} : ∀ {xs : List V} {ds : List PyData}, DrA F xs ds → ∀ b ∈ xs.zip ds, Dr F b.1 b.2
  | _, _, .nil => fun b hb => by cases hb
  | _, _, .cons h t => fun b hb => by
    rcases List.mem_cons.mp hb with e | hb
    · rw [e]; exact h
    · exact drA_zip t b hb
theorem cd_sortD {K : PySem.W.Frag} {ds : List PyData} (so : SrtOk ds) (hz : ds.length < 100000) : CallD (rSortD K) [.list ds] (fun x => ∃ es, x = .list es ∧ es.Perm ds) := fun F H xs e h Q q => by
  obtain ⟨v, rfl, hv⟩ := h.one
  obtain ⟨a, ys, rfl, ha, r⟩ := hv.lst_inv
  refine ⟨a, ys, ds, rfl, SqL.of (e _ _ ha), r.mono e, so, hz, fun bs p pe hp => ?_⟩
  have g2 : Gr [] F H _ _ := Gr.new (o := .lst (bs.map (·.1))) e hp
  have hb : DrA F (bs.map (·.1)) (bs.map (·.2)) := drA_of fun b hb => drA_zip r b (pe.mem_iff.mp hb)
  have := pe.map (·.2)
  rw [zip_snd r] at this
  exact q _ _ _ _ ⟨_, rfl, this⟩ g2 (.lst upd_same (hb.mono g2.ff))
/-- sorted(d.keys()), d a dict with nested keys -/
theorem evp_sortK {i : Nat} {kvs : List (PyData × PyData)} (hi : Γ[i]? = some (.dn kvs)) (so : SrtOk (kvs.map (·.1))) (hz : kvs.length < 100000) : EvP B (tCB (rSortK B.P B.w) (tCons (tKeysN B.P B.w (tVar i)) tNil)) Γ (fun x => ∃ es, x = .list es ∧ es.Perm (kvs.map (·.1))) := fun F H σ o Q q => by
  obtain ⟨l, L, es, ha, h0, hf, hl, r⟩ := o.at_ i _ hi
  refine ⟨.ref l, slot_eq es, l, L, rfl, hl, fun p hp => ?_⟩
  have nel : l ≠ p := fun z => by rw [← z, hl] at hp; cases hp
  have g1 : Gr [] F H F (upd H p (keysO p l)) := Gr.own (o := keysO p l) o.fh hp
  refine ⟨p, l, L, rfl, upd_same, by rw [upd_ne nel]; exact hl, fun x hx => (r.key x hx).mono g1.fh, by rw [r.keys]; exact so, by rw [r.len]; exact hz, fun bs p2 pe hp2 => ?_⟩
  have g2 := g1.trans (Gr.new (o := .lst (bs.map (·.1))) g1.fh hp2)
  have hb : DrA F (bs.map (·.1)) (bs.map (·.2)) := drA_of fun b hb => by
    obtain ⟨x, hx, e⟩ := List.mem_map.mp (pe.mem_iff.mp hb)
    rw [← e]
    exact r.key x hx
  have pm := pe.map (·.2)
  rw [List.map_map] at pm
  have e2 : L.map ((fun b : V × PyData => b.2) ∘ fun x => (V.ref x.1, x.2.1)) = kvs.map (·.1) := r.keys
  rw [e2] at pm
  exact q _ _ _ _ ⟨_, rfl, pm⟩ (g2.weak fun _ h => nomatch h) (rows_gr0 o g2) (.lst upd_same (hb.mono g2.ff))
/-- d.get(k, x) -/
def nget (kvs : List (PyData × PyData)) (kd : PyData) : Option PyData := (kvs.find? fun p => decide (nkOf p.1 = nkOf kd)).map (·.2)
theorem NtR.get {F : Hp} {kd : PyData} : ∀ {L : List NEnt} {kvs : List (PyData × PyData)}, NtR F L kvs → (nget kvs kd = none → nval L kd = none) ∧ ∀ d, nget kvs kd = some d → ∃ v, nval L kd = some v ∧ Dr F v d
  | _, _, .nil => ⟨fun _ => rfl, fun d h => by cases h⟩
  | _, _, .cons (b := b) (kd := k0) (d := d0) (v := v) (L := L) (kvs := kvs) h1 h2 t => by
    obtain ⟨a1, a2⟩ := NtR.get (kd := kd) t
    by_cases e : nkOf k0 = nkOf kd
    · have e1 : nget ((k0, d0) :: kvs) kd = some d0 := by simp [nget, List.find?_cons, e]
      have e2 : nval ((b, k0, v) :: L) kd = some v := by simp [nval, List.find?_cons, e]
      rw [e1, e2]
      exact ⟨fun z => (nomatch z), fun d z => by cases z; exact ⟨v, rfl, h2⟩⟩
    · have e1 : nget ((k0, d0) :: kvs) kd = nget kvs kd := by simp [nget, List.find?_cons, e]
      have e2 : nval ((b, k0, v) :: L) kd = nval L kd := by simp [nval, List.find?_cons, e]
      rw [e1, e2]
      exact ⟨a1, a2⟩
theorem ev_nget2 {i : Nat} {ty tx : TE} {kvs : List (PyData × PyData)} {ks : List PyData} {x : PyData} (hi : Γ[i]? = some (.dn kvs)) (hy : Ev B ty Γ (.tuple ks)) (hp : Tp 7 (.tuple ks) = true) (hx : Ev B tx Γ x) (hk : ∀ p ∈ kvs, Tp 7 p.1 = true) :
    Ev B (tNGet2 B.P B.w (tVar i) ty tx) Γ ((nget kvs (.tuple ks)).getD x) := fun F H σ o Q q => by
  obtain ⟨l, L, es, ha, h0, hf, hl, r⟩ := o.at_ i _ hi
  refine ⟨.ref l, slot_eq es, l, L, rfl, hl, ?_⟩
  refine hy F H σ o _ fun d1 y F1 H1 e1 g1 r1 h1 => ?_
  refine hx F1 H1 σ (o.grow g1 r1) _ fun d2 z F2 H2 e2 g2 r2 h2 => ?_
  subst e1 e2
  have h1' := h1.mono g2.ff
  obtain ⟨b, xs, rfl, hb, rx⟩ := h1'.tup_inv
  have G := g1.trans g2
  refine ⟨b, _, G.hh _ _ ha hl, rfl, h1'.mono g2.fh, hp, fun p hpL => ⟨((r.key p hpL).mono G.ff).mono G.fh, ?_⟩, ?_⟩
  · have : p.2.1 ∈ kvs.map (·.1) := by
      rw [← r.keys]
      exact List.mem_map.mpr ⟨p, hpL, rfl⟩
    obtain ⟨x, hx, e⟩ := List.mem_map.mp this
    rw [← e]
    exact hk x hx
  · obtain ⟨a1, a2⟩ := (r.mono G.ff).get (kd := .tuple ks)
    cases e : nget kvs (.tuple ks) with
    | none =>
      rw [a1 e]
      exact q _ _ _ _ (by rw [e]; rfl) G r2 h2
    | some d =>
      obtain ⟨v, e1, e2⟩ := a2 d e
      rw [e1]
      exact q _ _ _ _ (by rw [e]; rfl) G r2 e2
/-- len(d), d with tuples of ints as keys -/
theorem ev_lenDT {i : Nat} {kvs : List (List Int × PyData)} (hi : Γ[i]? = some (.dt kvs)) : Ev B (tCB rLenT (tCons (tVar i) tNil)) Γ (.int (kvs.length : Nat)) := fun F H σ o Q q => by
  obtain ⟨l, ws, es, ha, h0, hf, hl, r⟩ := o.at_ i _ hi
  refine ⟨.ref l, slot_eq es, l, ws, rfl, hl, ?_⟩
  rw [r.len]
  exact q _ _ F H rfl (Gr.refl o.fh) o.rows (.int _)
end Dl
set_option Elab.async false
set_option linter.all false
set_option maxRecDepth 100000
set_option maxHeartbeats 0
/-! The head: where each def stands, what the top's names hold, the run of the top. Printed by wip/genhead.py. -/
namespace Rf
open PySem PySem.Spec PyProof.Rows L2
def top (i : Nat) : Stmt := PySem.Challenge.pw_rateflows_k46_whole_mean_times.main.body.getD i (.Pass ⟨0, 0, 0, 0⟩)
abbrev FnP (K : PySem.W.Frag) (x : Str) (st : Stmt) (f : Addr) (fd : FuncData) : Prop := FunD K x x (defArgs st) (defBody st) (defScope st) [] [] f fd
abbrev s_is_in : Stmt := top 8
abbrev s_gcd : Stmt := top 9
abbrev s_reduced : Stmt := top 10
abbrev s_times : Stmt := top 11
abbrev s_is_pipe : Stmt := top 17
abbrev s_need_flow : Stmt := top 18
abbrev s_reach_of : Stmt := top 19
abbrev s_parts_in : Stmt := top 20
abbrev s_marks_in : Stmt := top 21
abbrev s_shares_in : Stmt := top 23
abbrev s_bad_pipe : Stmt := top 24
abbrev s_repetitions_in : Stmt := top 25
abbrev s_lacks : Stmt := top 27
abbrev s_behind : Stmt := top 28
abbrev s_most_in : Stmt := top 30
abbrev s_does : Stmt := top 31
abbrev s_round_of : Stmt := top 34
abbrev s_lives : Stmt := top 35
abbrev s_need_live : Stmt := top 36
abbrev s_need_few : Stmt := top 39
abbrev s_needed : Stmt := top 40
abbrev s_needs_in : Stmt := top 41
abbrev s_steps_in : Stmt := top 42
abbrev s_need_times : Stmt := top 45
abbrev s_need_timed : Stmt := top 46
abbrev s_longer_ring : Stmt := top 47
abbrev s_mean_of : Stmt := top 48
abbrev s_slowest : Stmt := top 49
abbrev s_mean_time : Stmt := top 50
abbrev s_slow_ring : Stmt := top 51
abbrev s_shows_slow_ring : Stmt := top 52
abbrev s_is_step : Stmt := top 53
abbrev s_law_taken : Stmt := top 55
abbrev s_law_pick : Stmt := top 56
abbrev s_law_gcd : Stmt := top 57
abbrev s_law_flow : Stmt := top 58
abbrev s_law_ratio : Stmt := top 59
abbrev s_law_joined : Stmt := top 60
abbrev s_law_round : Stmt := top 61
abbrev s_law_some : Stmt := top 62
abbrev s_law_can : Stmt := top 63
abbrev s_law_next : Stmt := top 64
abbrev s_law_do : Stmt := top 65
abbrev s_law_with : Stmt := top 66
abbrev s_law_live : Stmt := top 67
abbrev s_law_durations : Stmt := top 68
abbrev s_law_needs : Stmt := top 69
abbrev s_law_steps : Stmt := top 70
abbrev s_law_alike : Stmt := top 71
abbrev s_law_less : Stmt := top 72
abbrev s_law_mean : Stmt := top 73
abbrev s_law : Stmt := top 74
def d_is_in : He.DefD := ⟨("is_in", none), "is_in", "is_in", defArgs s_is_in, defBody s_is_in, defScope s_is_in, [], []⟩
def d_gcd : He.DefD := ⟨("gcd", none), "gcd", "gcd", defArgs s_gcd, defBody s_gcd, defScope s_gcd, [], []⟩
def d_reduced : He.DefD := ⟨("reduced", none), "reduced", "reduced", defArgs s_reduced, defBody s_reduced, defScope s_reduced, [], []⟩
def d_times : He.DefD := ⟨("times", none), "times", "times", defArgs s_times, defBody s_times, defScope s_times, [], []⟩
def d_is_pipe : He.DefD := ⟨("is_pipe", none), "is_pipe", "is_pipe", defArgs s_is_pipe, defBody s_is_pipe, defScope s_is_pipe, [], []⟩
def d_need_flow : He.DefD := ⟨("need_flow", none), "need_flow", "need_flow", defArgs s_need_flow, defBody s_need_flow, defScope s_need_flow, [], []⟩
def d_reach_of : He.DefD := ⟨("reach_of", none), "reach_of", "reach_of", defArgs s_reach_of, defBody s_reach_of, defScope s_reach_of, [], []⟩
def d_parts_in : He.DefD := ⟨("parts_in", none), "parts_in", "parts_in", defArgs s_parts_in, defBody s_parts_in, defScope s_parts_in, [], []⟩
def d_marks_in : He.DefD := ⟨("marks_in", none), "marks_in", "marks_in", defArgs s_marks_in, defBody s_marks_in, defScope s_marks_in, [], []⟩
def d_shares_in : He.DefD := ⟨("shares_in", none), "shares_in", "shares_in", defArgs s_shares_in, defBody s_shares_in, defScope s_shares_in, [], []⟩
def d_bad_pipe : He.DefD := ⟨("bad_pipe", none), "bad_pipe", "bad_pipe", defArgs s_bad_pipe, defBody s_bad_pipe, defScope s_bad_pipe, [], []⟩
def d_repetitions_in : He.DefD := ⟨("repetitions_in", none), "repetitions_in", "repetitions_in", defArgs s_repetitions_in, defBody s_repetitions_in, defScope s_repetitions_in, [], []⟩
def d_lacks : He.DefD := ⟨("lacks", none), "lacks", "lacks", defArgs s_lacks, defBody s_lacks, defScope s_lacks, [], []⟩
def d_behind : He.DefD := ⟨("behind", none), "behind", "behind", defArgs s_behind, defBody s_behind, defScope s_behind, [], []⟩
def d_most_in : He.DefD := ⟨("most_in", none), "most_in", "most_in", defArgs s_most_in, defBody s_most_in, defScope s_most_in, [], []⟩
def d_does : He.DefD := ⟨("does", none), "does", "does", defArgs s_does, defBody s_does, defScope s_does, [], []⟩
def d_round_of : He.DefD := ⟨("round_of", none), "round_of", "round_of", defArgs s_round_of, defBody s_round_of, defScope s_round_of, [], []⟩
def d_lives : He.DefD := ⟨("lives", none), "lives", "lives", defArgs s_lives, defBody s_lives, defScope s_lives, [], []⟩
def d_need_live : He.DefD := ⟨("need_live", none), "need_live", "need_live", defArgs s_need_live, defBody s_need_live, defScope s_need_live, [], []⟩
def d_need_few : He.DefD := ⟨("need_few", none), "need_few", "need_few", defArgs s_need_few, defBody s_need_few, defScope s_need_few, [], []⟩
def d_needed : He.DefD := ⟨("needed", none), "needed", "needed", defArgs s_needed, defBody s_needed, defScope s_needed, [], []⟩
def d_needs_in : He.DefD := ⟨("needs_in", none), "needs_in", "needs_in", defArgs s_needs_in, defBody s_needs_in, defScope s_needs_in, [], []⟩
def d_steps_in : He.DefD := ⟨("steps_in", none), "steps_in", "steps_in", defArgs s_steps_in, defBody s_steps_in, defScope s_steps_in, [], []⟩
def d_need_times : He.DefD := ⟨("need_times", none), "need_times", "need_times", defArgs s_need_times, defBody s_need_times, defScope s_need_times, [], []⟩
def d_need_timed : He.DefD := ⟨("need_timed", none), "need_timed", "need_timed", defArgs s_need_timed, defBody s_need_timed, defScope s_need_timed, [], []⟩
def d_longer_ring : He.DefD := ⟨("longer_ring", none), "longer_ring", "longer_ring", defArgs s_longer_ring, defBody s_longer_ring, defScope s_longer_ring, [], []⟩
def d_mean_of : He.DefD := ⟨("mean_of", none), "mean_of", "mean_of", defArgs s_mean_of, defBody s_mean_of, defScope s_mean_of, [], []⟩
def d_slowest : He.DefD := ⟨("slowest", none), "slowest", "slowest", defArgs s_slowest, defBody s_slowest, defScope s_slowest, [], []⟩
def d_mean_time : He.DefD := ⟨("mean_time", none), "mean_time", "mean_time", defArgs s_mean_time, defBody s_mean_time, defScope s_mean_time, [], []⟩
def d_slow_ring : He.DefD := ⟨("slow_ring", none), "slow_ring", "slow_ring", defArgs s_slow_ring, defBody s_slow_ring, defScope s_slow_ring, [], []⟩
def d_shows_slow_ring : He.DefD := ⟨("shows_slow_ring", none), "shows_slow_ring", "shows_slow_ring", defArgs s_shows_slow_ring, defBody s_shows_slow_ring, defScope s_shows_slow_ring, [], []⟩
def d_is_step : He.DefD := ⟨("is_step", none), "is_step", "is_step", defArgs s_is_step, defBody s_is_step, defScope s_is_step, [], []⟩
def d_law_taken : He.DefD := ⟨("_law_taken", none), "_law_taken", "_law_taken", defArgs s_law_taken, defBody s_law_taken, defScope s_law_taken, [], []⟩
def d_law_pick : He.DefD := ⟨("_law_pick", none), "_law_pick", "_law_pick", defArgs s_law_pick, defBody s_law_pick, defScope s_law_pick, [], []⟩
def d_law_gcd : He.DefD := ⟨("_law_gcd", none), "_law_gcd", "_law_gcd", defArgs s_law_gcd, defBody s_law_gcd, defScope s_law_gcd, [], []⟩
def d_law_flow : He.DefD := ⟨("_law_flow", none), "_law_flow", "_law_flow", defArgs s_law_flow, defBody s_law_flow, defScope s_law_flow, [], []⟩
def d_law_ratio : He.DefD := ⟨("_law_ratio", none), "_law_ratio", "_law_ratio", defArgs s_law_ratio, defBody s_law_ratio, defScope s_law_ratio, [], []⟩
def d_law_joined : He.DefD := ⟨("_law_joined", none), "_law_joined", "_law_joined", defArgs s_law_joined, defBody s_law_joined, defScope s_law_joined, [], []⟩
def d_law_round : He.DefD := ⟨("_law_round", none), "_law_round", "_law_round", defArgs s_law_round, defBody s_law_round, defScope s_law_round, [], []⟩
def d_law_some : He.DefD := ⟨("_law_some", none), "_law_some", "_law_some", defArgs s_law_some, defBody s_law_some, defScope s_law_some, [], []⟩
def d_law_can : He.DefD := ⟨("_law_can", none), "_law_can", "_law_can", defArgs s_law_can, defBody s_law_can, defScope s_law_can, [], []⟩
def d_law_next : He.DefD := ⟨("_law_next", none), "_law_next", "_law_next", defArgs s_law_next, defBody s_law_next, defScope s_law_next, [], []⟩
def d_law_do : He.DefD := ⟨("_law_do", none), "_law_do", "_law_do", defArgs s_law_do, defBody s_law_do, defScope s_law_do, [], []⟩
def d_law_with : He.DefD := ⟨("_law_with", none), "_law_with", "_law_with", defArgs s_law_with, defBody s_law_with, defScope s_law_with, [], []⟩
def d_law_live : He.DefD := ⟨("_law_live", none), "_law_live", "_law_live", defArgs s_law_live, defBody s_law_live, defScope s_law_live, [], []⟩
def d_law_durations : He.DefD := ⟨("_law_durations", none), "_law_durations", "_law_durations", defArgs s_law_durations, defBody s_law_durations, defScope s_law_durations, [], []⟩
def d_law_needs : He.DefD := ⟨("_law_needs", none), "_law_needs", "_law_needs", defArgs s_law_needs, defBody s_law_needs, defScope s_law_needs, [], []⟩
def d_law_steps : He.DefD := ⟨("_law_steps", none), "_law_steps", "_law_steps", defArgs s_law_steps, defBody s_law_steps, defScope s_law_steps, [], []⟩
def d_law_alike : He.DefD := ⟨("_law_alike", none), "_law_alike", "_law_alike", defArgs s_law_alike, defBody s_law_alike, defScope s_law_alike, [], []⟩
def d_law_less : He.DefD := ⟨("_law_less", none), "_law_less", "_law_less", defArgs s_law_less, defBody s_law_less, defScope s_law_less, [], []⟩
def d_law_mean : He.DefD := ⟨("_law_mean", none), "_law_mean", "_law_mean", defArgs s_law_mean, defBody s_law_mean, defScope s_law_mean, [], []⟩
def d_law : He.DefD := ⟨("law", none), "law", "law", defArgs s_law, defBody s_law, defScope s_law, [], []⟩
def fn : List He.DefD := [d_is_in, d_gcd, d_reduced, d_times, d_is_pipe, d_need_flow, d_reach_of, d_parts_in, d_marks_in, d_shares_in, d_bad_pipe, d_repetitions_in, d_lacks, d_behind, d_most_in, d_does, d_round_of, d_lives, d_need_live, d_need_few, d_needed, d_needs_in, d_steps_in, d_need_times, d_need_timed, d_longer_ring, d_mean_of, d_slowest, d_mean_time, d_slow_ring, d_shows_slow_ring, d_is_step, d_law_taken, d_law_pick, d_law_gcd, d_law_flow, d_law_ratio, d_law_joined, d_law_round, d_law_some, d_law_can, d_law_next, d_law_do, d_law_with, d_law_live, d_law_durations, d_law_needs, d_law_steps, d_law_alike, d_law_less, d_law_mean, d_law]
def fa1 : List He.Fa := [.glo "is_in", .glo "gcd", .glo "reduced", .glo "times", .glo "is_pipe", .glo "need_flow", .glo "reach_of", .glo "parts_in", .glo "marks_in", .glo "shares_in", .glo "bad_pipe", .glo "repetitions_in", .glo "lacks", .glo "behind", .glo "most_in", .glo "does", .glo "round_of", .glo "lives", .glo "need_live", .glo "need_few", .glo "needed", .glo "needs_in", .glo "steps_in", .glo "need_times", .glo "need_timed", .glo "longer_ring", .glo "mean_of", .glo "slowest", .glo "mean_time", .glo "slow_ring", .glo "shows_slow_ring", .glo "is_step", .glo "_law_taken", .glo "_law_pick", .glo "_law_gcd", .glo "_law_flow", .glo "_law_ratio", .glo "_law_joined", .glo "_law_round", .glo "_law_some"]
def fa2 : List He.Fa := [.glo "_law_can", .glo "_law_next", .glo "_law_do", .glo "_law_with", .glo "_law_live", .glo "_law_durations", .glo "_law_needs", .glo "_law_steps", .glo "_law_alike", .glo "_law_less", .glo "_law_mean", .glo "law", .int "MOST_BOXES" 8, .int "MOST_PIPES" 16, .int "MOST_RATE" 999, .int "MOST_TOKENS" 99999, .int "MOST_ROUND" 2000, .int "MOST_FIRINGS" 120, .int "MOST_DURATION" 99, .free "abs", .free "bool", .free "enumerate", .free "int", .free "isinstance", .free "len", .free "list", .free "range", .free "set", .free "sorted", .free "str", .free "sum", .free "tuple"]
def fa : List He.Fa := fa1 ++ fa2
def loose0 : List PySem.Str := [("FlowError" : PySem.Str), ("BadFlow" : PySem.Str), ("NotBalanced" : PySem.Str), ("NotLive" : PySem.Str), ("BadTimes" : PySem.Str), ("TooMany" : PySem.Str), ("is_in" : PySem.Str), ("gcd" : PySem.Str), ("reduced" : PySem.Str), ("times" : PySem.Str), ("MOST_BOXES" : PySem.Str), ("MOST_PIPES" : PySem.Str), ("MOST_RATE" : PySem.Str), ("MOST_TOKENS" : PySem.Str), ("is_pipe" : PySem.Str)]
def loose1 : List PySem.Str := [("need_flow" : PySem.Str), ("reach_of" : PySem.Str), ("parts_in" : PySem.Str), ("marks_in" : PySem.Str), ("shares_in" : PySem.Str), ("bad_pipe" : PySem.Str), ("repetitions_in" : PySem.Str), ("lacks" : PySem.Str), ("behind" : PySem.Str), ("most_in" : PySem.Str), ("does" : PySem.Str), ("MOST_ROUND" : PySem.Str), ("round_of" : PySem.Str), ("lives" : PySem.Str), ("need_live" : PySem.Str)]
def loose2 : List PySem.Str := [("MOST_FIRINGS" : PySem.Str), ("need_few" : PySem.Str), ("needed" : PySem.Str), ("needs_in" : PySem.Str), ("steps_in" : PySem.Str), ("MOST_DURATION" : PySem.Str), ("need_times" : PySem.Str), ("need_timed" : PySem.Str), ("longer_ring" : PySem.Str), ("mean_of" : PySem.Str), ("slowest" : PySem.Str), ("mean_time" : PySem.Str), ("slow_ring" : PySem.Str), ("shows_slow_ring" : PySem.Str), ("is_step" : PySem.Str)]
def loose3 : List PySem.Str := [("_law_taken" : PySem.Str), ("_law_pick" : PySem.Str), ("_law_gcd" : PySem.Str), ("_law_flow" : PySem.Str), ("_law_ratio" : PySem.Str), ("_law_joined" : PySem.Str), ("_law_round" : PySem.Str), ("_law_some" : PySem.Str), ("_law_can" : PySem.Str), ("_law_next" : PySem.Str), ("_law_do" : PySem.Str), ("_law_with" : PySem.Str), ("_law_live" : PySem.Str), ("_law_durations" : PySem.Str), ("_law_needs" : PySem.Str)]
def loose4 : List PySem.Str := [("_law_steps" : PySem.Str), ("_law_alike" : PySem.Str), ("_law_less" : PySem.Str), ("_law_mean" : PySem.Str)]
def loose : List PySem.Str := loose0 ++ loose1 ++ loose2 ++ loose3 ++ loose4
abbrev R : PySem.W.OpenRow := PySem.W.OpenLaw.row PySem.Challenge.rw_rateflows_k46_whole_mean_times
abbrev hk : PySem.W.Hook := He.hookD 4 fa fn
def ob (s : PySem.W.SharedT) : He.AlD := He.obsDG 4 fa fn (HandSHeadRun.getT s)
theorem ob_eq (s : PySem.W.SharedT) : ob s = hk.obs s.abs := He.obsDG_eq (HandSHeadRun.getT_eq s)
theorem run (w : World) : HandSHeadRun.RunEq R (PySem.W.view R.prog [74]) hk ob 8000 loose w := by
  intro os
  kernel_rfl
/-- what the walk of the defs leaves to be shown: from the head's facts, the law's def and its promise -/
def LawOk : Prop := ∀ {P : Program} {w : World} {K : PySem.W.Frag} {h : Heap} {mg : Str → Option Value} {f : Addr}, K.In h → h.Ns mainGlobals mg → mg ("law" : Str) = some (.ref f) → He.SaysD fa fn K →
    ∃ (fd : FuncData) (sp : Sp), (∀ (s : Shared) (v : Value), BindsTo s fd ⟨[v], []⟩ [("_law_script", v)]) ∧
      (∀ (H : Hp) (a : Addr) (ns : List Int), ns.length ≤ 63 → Only H → SqL K H a (ns.map V.int) → sp [.ref a] H (fun v _ => v = .bl true) fun _ _ _ => False) ∧
      ∀ base : Heap, K.In base → base.Ns mainGlobals mg → FnOk P w K mg base CX0 30 f fd ["_law_script"] sp
theorem head (hl : LawOk) : PySem.Challenge.rw_rateflows_k46_whole_mean_times.Holds := by
  open PySem.W PySem.Calls in
  w_on; o_law
  refine HandSHeadRun.head_any (r := PySem.W.OpenLaw.row PySem.Challenge.rw_rateflows_k46_whole_mean_times) (q := PySem.W.view (PySem.W.OpenLaw.row PySem.Challenge.rw_rateflows_k46_whole_mean_times).prog [74]) (H := Rf.hk) (ob := Rf.ob) (M := 8000) (loose := Rf.loose) (d := HandSHeadRun.topDef (PySem.W.OpenLaw.row PySem.Challenge.rw_rateflows_k46_whole_mean_times).prog 74) (kwd := []) Rf.ob_eq
    (by kernel_rfl) (fun s => by kernel_rfl) Rf.run (by kernel_rfl) (by kernel_rfl) (by kernel_rfl) (by rfl) (by first | assumption | decide +kernel) (by decide +kernel) ⟨rfl, rfl, rfl, rfl, rfl, by decide +kernel⟩ ?hw ?hc
  case hw => w_witness2
  case hc =>
    refine L2.walk_ofE (l := PySem.Challenge.rw_rateflows_k46_whole_mean_times) (n := 63) (k := 30) (x := "_law_script") (CX := L2.CX0) rfl (by decide) (by kernel_rfl) ⟨rfl, by decide, by decide⟩ ?F (fun _ _ _ _ z => z)
    intro w mg fa h Y G hmg0
    obtain ⟨K, KX, c⟩ := Y
    have hmg : mg ("law" : PySem.Str) = some (.ref fa) := by
      have e : (HandSHeadRun.topDef (PySem.W.OpenLaw.row PySem.Challenge.rw_rateflows_k46_whole_mean_times).prog 74).name = ("law" : PySem.Str) := by kernel_rfl
      rw [← e]
      exact hmg0
    obtain ⟨fd, sp, hb, hs, hF⟩ := hl (P := (PySem.Challenge.rw_rateflows_k46_whole_mean_times).prog) (w := w) KX G hmg c
    exact ⟨K, fd, sp, KX, hb, hs, hF⟩
end Rf
set_option Elab.async false
set_option linter.all false
set_option maxRecDepth 100000
set_option maxHeartbeats 1000000
/-! Glue: defs by their bodies' Wp; the facts of the names. -/
namespace Dl
open PySem PySem.Spec PyProof.Rows L2 C8 Rf
/-- a def of the top, under its name -/
def Df (K : PySem.W.Frag) (mg : PySem.Str → Option Value) (x : PySem.Str) (st : Stmt) : Prop := ∃ f fd, FnP K x st f fd ∧ mg x = some (.ref f)
def IntAt (mg : PySem.Str → Option Value) (x : PySem.Str) (i : Int) : Prop := ∃ u, mg x = some u ∧ RelV (.int i) u
structure Tx (mg : PySem.Str → Option Value) : Prop where
  m_abs : mg "abs" = none
  m_bool : mg "bool" = none
  m_enumerate : mg "enumerate" = none
  m_int : mg "int" = none
  m_isinstance : mg "isinstance" = none
  m_len : mg "len" = none
  m_list : mg "list" = none
  m_range : mg "range" = none
  m_set : mg "set" = none
  m_sorted : mg "sorted" = none
  m_str : mg "str" = none
  m_sum : mg "sum" = none
  m_tuple : mg "tuple" = none
  c_MOST_BOXES : IntAt mg "MOST_BOXES" 8
  c_MOST_PIPES : IntAt mg "MOST_PIPES" 16
  c_MOST_RATE : IntAt mg "MOST_RATE" 999
  c_MOST_TOKENS : IntAt mg "MOST_TOKENS" 99999
  c_MOST_ROUND : IntAt mg "MOST_ROUND" 2000
  c_MOST_FIRINGS : IntAt mg "MOST_FIRINGS" 120
  c_MOST_DURATION : IntAt mg "MOST_DURATION" 99
theorem pe_ic {X : Cx} {x : PySem.Str} {i : Int} {pos : Pos} (hg : Gl X x) (h : IntAt X.mg x i) (hd : (x == ("__debug__" : PySem.Str)) = false := by decide) : PE X (.Name x pos) (tC (.int i)) := by
  obtain ⟨u, e, r⟩ := h
  exact pe_glob hg e r hd
/-! ### rules with the frame told outright (for blocks) -/
section
variable {X : Cx} {K : PySem.W.Frag}
theorem ix_seqK (h : X.K = K) : IxR X (rIx K) := h ▸ ix_seq
theorem op_eqDK (h : X.K = K) (hu : X.A.units + 64 < cLine) : OpR X (compareOp .Eq) (rEqD K) := h ▸ op_eqD hu
theorem op_neDK (h : X.K = K) (hu : X.A.units + 64 < cLine) : OpR X (compareOp .NotEq) (rNeD K) := h ▸ op_neD hu
theorem op_inDK (h : X.K = K) (hu : X.A.units + 65 < cLine) : OpR X (compareOp .In) (rInD K) := h ▸ op_inD hu
theorem op_notInDK (h : X.K = K) (hu : X.A.units + 65 < cLine) : OpR X (compareOp .NotIn) (rNotInD K) := h ▸ op_notInD hu
theorem sl_tupAK (h : X.K = K) : SlR X (rSlA K) := h ▸ sl_tupA
theorem op_catAK (h : X.K = K) : OpR X (binaryOp .Add) (rCatA K) := h ▸ op_catA
theorem call_len_seqK (h : X.K = K) : CallR X (.builtin "len") (fun xs H Q => ∃ p ys, xs = [.ref p] ∧ (SqL K H p ys ∨ SqT K H p ys) ∧ Q (.int ys.length) H) := h ▸ call_len_seq
end
section
variable {P : Program} {w : World} {K : PySem.W.Frag} {mg : PySem.Str → Option Value} {base : Heap}
theorem hu64 {k : Nat} {A : Around} (r : Room k A) : A.units + 64 < cLine := by have := r.un; omega
theorem hu65 {k : Nat} {A : Around} (r : Room k A) : A.units + 65 < cLine := by have := r.un; omega
/-- a def that changes nothing -/
theorem calP {x : PySem.Str} {st : Stmt} {N ps : List PySem.Str} {k n : Nat} (pre : List PyData → Prop) (post : List PyData → PyData → Prop) (F : Df K mg x st) (S : FnScope N ps (defScope st)) (hn : ps.length = n) (hN : n ≤ N.length) (hlen : ∀ ds, pre ds → ds.length = n)
    (hb : ∀ (kV doc pm : Value) (an : Option Addr) (cdv ct : Value) (us : List Value), us.length = ps.length → bindArgs (PySem.W.fnOf x x (defArgs st) (defBody st) (defScope st) .none kV doc pm an cdv ct) ⟨us, []⟩ = pure (ps.zip us))
    (hbody : ∀ (f : Addr) (cdv : Value) (A : Around) (outer : List Env) (s : Shared) (H : Hp) (E : XK), Room k (A.deeper (envOfC x (defScope st) s.heap.objs.size f cdv)) →
      ∃ t, PSs (cxOf C8.CX0 P w K mg base N x (defScope st) f cdv A outer s H E).nox (defBody st) t ∧ ∀ (F0 : Hp) (ds : List PyData), pre ds → Wp ⟨P, w, K, [], F0, H⟩ t (ds.map Sk.im ++ List.replicate (N.length - n) .un) (Po.of (post ds))) : Cal P w K mg base (k + 1) x (spP pre post) [] := by
  obtain ⟨f, fd, F, hm⟩ := F
  refine ⟨f, fd, ps, [], F.ok S (fun vs H Q E h => ?_) fun cdv A outer s H vs Q E hr h => ?_, hm, F.kp, F.bindsN hb, .nil⟩
  · obtain ⟨F, ds, e, hd, hp, q⟩ := h
    rw [hd.len, hlen ds hp, hn]
  · obtain ⟨t, d, wp⟩ := hbody f cdv A outer s H E hr
    exact ⟨t, d.nox, body_ok hN hlen wp h⟩
/-- a def that draws -/
theorem calR {x : PySem.Str} {st : Stmt} {N ps : List PySem.Str} {k n : Nat} (pre : List PyData → Prop) (post : List PyData → PyData → Prop) (F : Df K mg x st) (S : FnScope N ps (defScope st)) (hn : ps.length = n + 1) (hN : n + 1 ≤ N.length) (hlen : ∀ ds, pre ds → ds.length = n)
    (hb : ∀ (kV doc pm : Value) (an : Option Addr) (cdv ct : Value) (us : List Value), us.length = ps.length → bindArgs (PySem.W.fnOf x x (defArgs st) (defBody st) (defScope st) .none kV doc pm an cdv ct) ⟨us, []⟩ = pure (ps.zip us))
    (hbody : ∀ (f : Addr) (cdv : Value) (A : Around) (outer : List Env) (s : Shared) (H : Hp) (E : XK), Room k (A.deeper (envOfC x (defScope st) s.heap.objs.size f cdv)) →
      ∃ t, PSs (cxOf C8.CX0 P w K mg base N x (defScope st) f cdv A outer s H E).nox (defBody st) t ∧ ∀ (F0 : Hp) (a : Addr) (ds : List PyData), pre ds → Wp ⟨P, w, K, [a], F0, H⟩ t (.row :: ds.map Sk.im ++ List.replicate (N.length - (n + 1)) .un) (Po.of (post ds))) : Cal P w K mg base (k + 1) x (spR K pre post) [] := by
  obtain ⟨f, fd, F, hm⟩ := F
  refine ⟨f, fd, ps, [], F.ok S (fun vs H Q E h => ?_) fun cdv A outer s H vs Q E hr h => ?_, hm, F.kp, F.bindsN hb, .nil⟩
  · obtain ⟨F, a, ws, ds, rfl, e, hr, hd, hp, q⟩ := h
    rw [List.length_cons, hd.len, hlen ds hp, hn]
  · obtain ⟨t, d, wp⟩ := hbody f cdv A outer s H E hr
    exact ⟨t, d.nox, body_okR hN hlen wp h⟩

/-- .. told by what its data stands for -/
def spA {α : Type} (enc : α → List PyData) (Pre : α → Prop) (Post : α → PyData → Prop) : Sp := fun vs H Q E => ∃ x : α, spP (fun ds => ds = enc x ∧ Pre x) (fun _ d => Post x d) vs H Q E
def spD {α : Type} (K : PySem.W.Frag) (enc : α → List PyData) (Pre : α → Prop) (Post : α → PyData → Prop) : Sp := fun vs H Q E => ∃ x : α, spR K (fun ds => ds = enc x ∧ Pre x) (fun _ d => Post x d) vs H Q E
theorem calA {α : Type} {x : PySem.Str} {st : Stmt} {N ps : List PySem.Str} {k n : Nat} (enc : α → List PyData) (Pre : α → Prop) (Post : α → PyData → Prop) (F : Df K mg x st) (S : FnScope N ps (defScope st)) (hn : ps.length = n) (hN : n ≤ N.length) (hlen : ∀ x, (enc x).length = n)
    (hb : ∀ (kV doc pm : Value) (an : Option Addr) (cdv ct : Value) (us : List Value), us.length = ps.length → bindArgs (PySem.W.fnOf x x (defArgs st) (defBody st) (defScope st) .none kV doc pm an cdv ct) ⟨us, []⟩ = pure (ps.zip us))
    (hbody : ∀ (f : Addr) (cdv : Value) (A : Around) (outer : List Env) (s : Shared) (H : Hp) (E : XK), Room k (A.deeper (envOfC x (defScope st) s.heap.objs.size f cdv)) →
      ∃ t, PSs (cxOf C8.CX0 P w K mg base N x (defScope st) f cdv A outer s H E).nox (defBody st) t ∧ ∀ (F0 : Hp) (x : α), Pre x → Wp ⟨P, w, K, [], F0, H⟩ t ((enc x).map Sk.im ++ List.replicate (N.length - n) .un) (Po.of (Post x))) : Cal P w K mg base (k + 1) x (spA enc Pre Post) [] := by
  obtain ⟨f, fd, F, hm⟩ := F
  refine ⟨f, fd, ps, [], F.ok S (fun vs H Q E h => ?_) fun cdv A outer s H vs Q E hr h => ?_, hm, F.kp, F.bindsN hb, .nil⟩
  · obtain ⟨x, F, ds, e, hd, hp, q⟩ := h
    rw [hd.len, hp.1, hlen, hn]
  · obtain ⟨t, d, wp⟩ := hbody f cdv A outer s H E hr
    obtain ⟨x, h⟩ := h
    exact ⟨t, d.nox, body_ok hN (fun ds hp => by rw [hp.1, hlen]) (fun F0 ds hp => by rw [hp.1]; exact wp F0 x hp.2) h⟩
theorem calD {α : Type} {x : PySem.Str} {st : Stmt} {N ps : List PySem.Str} {k n : Nat} (enc : α → List PyData) (Pre : α → Prop) (Post : α → PyData → Prop) (F : Df K mg x st) (S : FnScope N ps (defScope st)) (hn : ps.length = n + 1) (hN : n + 1 ≤ N.length) (hlen : ∀ x, (enc x).length = n)
    (hb : ∀ (kV doc pm : Value) (an : Option Addr) (cdv ct : Value) (us : List Value), us.length = ps.length → bindArgs (PySem.W.fnOf x x (defArgs st) (defBody st) (defScope st) .none kV doc pm an cdv ct) ⟨us, []⟩ = pure (ps.zip us))
    (hbody : ∀ (f : Addr) (cdv : Value) (A : Around) (outer : List Env) (s : Shared) (H : Hp) (E : XK), Room k (A.deeper (envOfC x (defScope st) s.heap.objs.size f cdv)) →
      ∃ t, PSs (cxOf C8.CX0 P w K mg base N x (defScope st) f cdv A outer s H E).nox (defBody st) t ∧ ∀ (F0 : Hp) (a : Addr) (x : α), Pre x → Wp ⟨P, w, K, [a], F0, H⟩ t (.row :: (enc x).map Sk.im ++ List.replicate (N.length - (n + 1)) .un) (Po.of (Post x))) : Cal P w K mg base (k + 1) x (spD K enc Pre Post) [] := by
  obtain ⟨f, fd, F, hm⟩ := F
  refine ⟨f, fd, ps, [], F.ok S (fun vs H Q E h => ?_) fun cdv A outer s H vs Q E hr h => ?_, hm, F.kp, F.bindsN hb, .nil⟩
  · obtain ⟨x, F, a, ws, ds, rfl, e, hr, hd, hp, q⟩ := h
    rw [List.length_cons, hd.len, hp.1, hlen, hn]
  · obtain ⟨t, d, wp⟩ := hbody f cdv A outer s H E hr
    obtain ⟨x, h⟩ := h
    exact ⟨t, d.nox, body_okR hN (fun ds hp => by rw [hp.1, hlen]) (fun F0 a ds hp => by rw [hp.1]; exact wp F0 a x hp.2) h⟩
end
section
variable {B : Bs} {Γ : List Sk} {α : Type} {enc : α → List PyData} {Pre : α → Prop} {Post : α → PyData → Prop}
theorem ev_callA {t : TA} {E : XK} {ds : List PyData} (x : α) (h : Ea B t Γ ds) (e : ds = enc x) (k : Pre x) : EvP B (tCall (spA enc Pre Post) [] E t) Γ (Post x) := fun F H σ o Q q =>
  h F H σ o _ fun ds vs F1 H1 ps g r hv => ⟨x, F1, ds, g.fh, by rw [List.append_nil]; exact hv, ⟨by rw [ps]; exact e, k⟩, fun d v F2 H2 pd g2 hd =>
    q d v F2 H2 pd (g.trans (g2.weak fun _ h => nomatch h)) (fun a ha => (r a ha).gr0 g2) hd⟩
theorem evp_callA {t : TA} {E : XK} {Ps : List PyData → Prop} {Pd : PyData → Prop} (h : EaP B t Γ Ps) (k : ∀ ds, Ps ds → ∃ x, ds = enc x ∧ Pre x ∧ ∀ d, Post x d → Pd d) : EvP B (tCall (spA enc Pre Post) [] E t) Γ Pd := fun F H σ o Q q =>
  h F H σ o _ fun ds vs F1 H1 ps g r hv => by
    obtain ⟨x, e, k1, k2⟩ := k ds ps
    exact ⟨x, F1, ds, g.fh, by rw [List.append_nil]; exact hv, ⟨e, k1⟩, fun d v F2 H2 pd g2 hd => q d v F2 H2 (k2 d pd) (g.trans (g2.weak fun _ h => nomatch h)) (fun a ha => (r a ha).gr0 g2) hd⟩
theorem evp_callD {t : TA} {E : XK} {i : Nat} {Ps : List PyData → Prop} {Pd : PyData → Prop} (hi : Γ[i]? = some .row) (h : EaP B t Γ Ps) (k : ∀ ds, Ps ds → ∃ x, ds = enc x ∧ Pre x ∧ ∀ d, Post x d → Pd d) :
    EvP B (tCall (spD B.K enc Pre Post) [] E (tCons (tVar i) t)) Γ Pd := fun F H σ o Q q => by
  obtain ⟨a, e, ha⟩ := o.at_ i _ hi
  refine ⟨.ref a, slot_eq e, ?_⟩
  refine h F H σ o _ fun ds vs F1 H1 ps g r hv => ?_
  obtain ⟨x, ex, k1, k2⟩ := k ds ps
  refine ⟨x, F1, a, vs, ds, by rw [List.append_nil], g.fh, r a ha, hv, ⟨ex, k1⟩, fun d v F2 H2 pd g2 hr hd => ?_⟩
  have g2' := g2.weak (B := B.A) fun x hx => by rw [List.mem_singleton] at hx; rw [hx]; exact ha
  refine q d v F2 H2 (k2 d pd) (g.trans g2') (fun b hb => ?_) hd
  by_cases z : b = a
  · rw [z]
    exact hr
  · obtain ⟨f, S, ns, x, y, w, h, sq, bd⟩ := r b hb
    exact ⟨g2.nf b (by rw [h]; exact fun z => nomatch z) f, S, ns, x, y, w, g2.hh b _ (by simpa using z) h, g2.ff.seq sq, bd⟩
theorem ev_callD {t : TA} {E : XK} {i : Nat} {ds : List PyData} (x : α) (hi : Γ[i]? = some .row) (h : Ea B t Γ ds) (e : ds = enc x) (k : Pre x) : EvP B (tCall (spD B.K enc Pre Post) [] E (tCons (tVar i) t)) Γ (Post x) :=
  evp_callD hi h fun ds' e' => ⟨x, by rw [e']; exact e, k, fun _ h => h⟩
end
end Dl
set_option Elab.async false
set_option linter.all false
set_option maxRecDepth 100000
set_option maxHeartbeats 1000000
/-! Walks 1: numbers. -/
namespace Dl
open PySem PySem.Spec PyProof.Rows L2 C8 Rf
theorem iabs_natAbs (i : Int) : (if i < 0 then -i else i) = (i.natAbs : Int) := by split <;> omega
theorem eqv_int (i j : Int) : PyData.eqv (.int i) (.int j) = decide (i = j) := by
  by_cases h : i = j <;> simp [PyData.eqv, h]
theorem kit_ii : kitB "int" "int" = some true := by decide +kernel
theorem kit_ib : kitB "int" "bool" = some false := by decide +kernel
theorem kit_tt : kitB "tuple" "tuple" = some true := by decide +kernel
abbrev pI (p : Int × Int) : PyData := .tuple [.int p.1, .int p.2]
abbrev eII (p : Int × Int) : List PyData := [.int p.1, .int p.2]
/-- a ratio in lowest terms -/
def rd (a b : Int) : Int × Int := (a / (Int.gcd a b : Nat), b / (Int.gcd a b : Nat))
theorem gcd_pos {a b : Int} (h : 0 < b) : 0 < Int.gcd a b := Int.gcd_pos_of_ne_zero_right _ (by omega)
theorem gcd_le {a b : Int} (h : 0 < b) : ((Int.gcd a b : Nat) : Int) ≤ b := Int.le_of_dvd h (Int.gcd_dvd_right ..)
theorem rd_pos {a b : Int} (h : 0 < b) : 0 < (rd a b).2 := by
  have g := gcd_pos (a := a) h
  exact Int.ediv_pos_of_pos_of_dvd h (by omega) (Int.gcd_dvd_right ..)
theorem rd_le {a b : Int} (h : 0 < b) : (rd a b).2 ≤ b := Int.ediv_le_self _ (by omega)
theorem rd_mul {a b : Int} (h : 0 < b) : ∃ g : Int, 0 < g ∧ a = (rd a b).1 * g ∧ b = (rd a b).2 * g :=
  ⟨(Int.gcd a b : Nat), by have := gcd_pos (a := a) h; omega, (Int.ediv_mul_cancel (Int.gcd_dvd_left ..)).symm, (Int.ediv_mul_cancel (Int.gcd_dvd_right ..)).symm⟩
theorem rd_scale {a b g : Int} (hg : 0 < g) (h : 0 < b) : rd (a * g) (b * g) = rd a b := by
  unfold rd
  have e : ((Int.gcd (a * g) (b * g) : Nat) : Int) = (Int.gcd a b : Nat) * g := by
    rw [Int.gcd_mul_right, Int.natCast_mul]
    congr 1
    omega
  have g0 := gcd_pos (a := a) h
  rw [e, Int.mul_ediv_mul_of_pos_left _ _ hg, Int.mul_ediv_mul_of_pos_left _ _ hg]
theorem rd_eq {a b c d : Int} (h : 0 < b) (h' : 0 < d) (e : a * d = c * b) : rd a b = rd c d := by
  have e1 : rd (a * d) (b * d) = rd a b := rd_scale h' h
  have e2 : rd (c * b) (d * b) = rd c d := rd_scale h h'
  rw [← e1, ← e2, e, Int.mul_comm b d]
theorem rd_cross {a b c d : Int} (h : 0 < b) (h' : 0 < d) (e : rd a b = rd c d) : a * d = c * b := by
  obtain ⟨g, hg, e1, e2⟩ := rd_mul (a := a) h
  obtain ⟨g', hg', e3, e4⟩ := rd_mul (a := c) h'
  rw [e] at e1 e2
  calc a * d = ((rd c d).1 * g) * ((rd c d).2 * g') := by rw [← e1, ← e4]
    _ = ((rd c d).1 * g') * ((rd c d).2 * g) := by simp [Int.mul_assoc, Int.mul_comm, Int.mul_left_comm]
    _ = c * b := by rw [← e3, ← e2]
theorem rd_abs {a b : Int} (h : 0 < b) : (rd a b).1.natAbs ≤ a.natAbs := by
  obtain ⟨g, hg, e1, e2⟩ := rd_mul (a := a) h
  conv => rhs; rw [e1, Int.natAbs_mul]
  exact Nat.le_mul_of_pos_right _ (by omega)
section
variable {P : Program} {w : World} {K : PySem.W.Frag} {mg : PySem.Str → Option Value} {base : Heap}
theorem sc_gcd : FnScope ["one", "other"] ["one", "other"] (defScope s_gcd) := ⟨rfl, rfl, rfl, by decide +kernel, rfl, by decide +kernel, by decide +kernel⟩
abbrev spGcd : Sp := spA eII (fun _ => True) (fun p r => r = .int (Int.gcd p.1 p.2 : Nat))
theorem ok_gcd (T : Tx mg) (F : Df K mg "gcd" s_gcd) : Cal P w K mg base 1 "gcd" spGcd [] := by
  refine calA _ _ _ F sc_gcd rfl (by decide) (fun _ => rfl) (fun _ _ _ _ _ _ us hl => match us, hl with | [_, _], _ => rfl) fun f cdv A outer s H E hr => ⟨_,
    (pss_cons (ps_par (i := 0) (j := 1) (by rfl) sc_gcd.nd rfl rfl (by decide) rfl rfl (pa_cons (pe_callB call_abs (by rfl) T.m_abs (by decide +kernel) (pa_cons (pv 0) pa_nil)) (pa_cons (pe_callB call_abs (by rfl) T.m_abs (by decide +kernel) (pa_cons (pv 1) pa_nil)) pa_nil)) (by rfl))
      (pss_cons (ps_while PassesOwn.never (pt_cmpR (op_neD (hu64 hr)) (pv 1) pe_int (nomark _)) (pss_one (ps_par (i := 0) (j := 1) (by rfl) sc_gcd.nd rfl rfl (by decide) rfl rfl (pa_cons (pv 1) (pa_cons (pe_op op_modN (pv 0) (pv 1)) pa_nil)) (by rfl))))
      (pss_one (ps_ret (pv 0))))), fun F0 x hx => ?_⟩
  obtain ⟨a, b⟩ := x
  refine wp_seq (wp_par (es_cons (evs_d (ev_cb (ea_cons (ev_var rfl) ea_nil) cd_abs)) (es_cons (evs_d (ev_cb (ea_cons (ev_var rfl) ea_nil) cd_abs)) esp_nil)) fun ss e => ⟨_, _, e, ?_⟩)
  refine wp_seq (wp_while (fun m Γ => ∃ x y : Nat, Γ = [.im (.int x), .im (.int y)] ∧ Nat.gcd x y = Int.gcd a b ∧ m = y) b.natAbs ?_ ?_)
  · exact ⟨a.natAbs, b.natAbs, by rw [iabs_natAbs, iabs_natAbs]; rfl, rfl, rfl⟩
  · rintro y Γ' ⟨x, _, rfl, hg, rfl⟩
    refine ⟨_, et_test (ev_op (ev_var rfl) ev_int (opd_ne (n := 0) (m := 0) rfl rfl (by decide) (by decide))), fun hb => ?_, fun hb => ?_⟩
    · rw [eqv_int] at hb
      have hy : y ≠ 0 := fun z => by subst z; simp at hb
      refine wp_par (es_cons (evs_d (ev_var rfl)) (es_cons (evs_d (ev_op (ev_var rfl) (ev_var rfl) (opd_mod (by omega)))) esp_nil)) fun ss e => ⟨_, _, e, x % y, Nat.mod_lt _ (by omega), y, x % y, ?_, ?_, rfl⟩
      · rw [Int.fmod_eq_emod_of_nonneg _ (by omega)]
        rfl
      · rw [Nat.gcd_comm, ← Nat.gcd_rec, Nat.gcd_comm]
        exact hg
    · rw [eqv_int] at hb
      have hy : y = 0 := by simpa using hb
      subst hy
      refine wp_retD (ev_var rfl) ?_
      show PyData.int x = _
      rw [← hg, Nat.gcd_zero_right]
theorem sc__law_gcd : FnScope ["_law_one", "_law_other"] ["_law_one", "_law_other"] (defScope s_law_gcd) := ⟨rfl, rfl, rfl, by decide +kernel, rfl, by decide +kernel, by decide +kernel⟩
theorem ok__law_gcd (T : Tx mg) (F : Df K mg "_law_gcd" s_law_gcd) : Cal P w K mg base 1 "_law_gcd" spGcd [] := by
  refine calA _ _ _ F sc__law_gcd rfl (by decide) (fun _ => rfl) (fun _ _ _ _ _ _ us hl => match us, hl with | [_, _], _ => rfl) fun f cdv A outer s H E hr => ⟨_,
    (pss_cons (ps_par (i := 0) (j := 1) (by rfl) sc__law_gcd.nd rfl rfl (by decide) rfl rfl (pa_cons (pe_callB call_abs (by rfl) T.m_abs (by decide +kernel) (pa_cons (pv 0) pa_nil)) (pa_cons (pe_callB call_abs (by rfl) T.m_abs (by decide +kernel) (pa_cons (pv 1) pa_nil)) pa_nil)) (by rfl))
      (pss_cons (ps_while PassesOwn.never (pt_cmpR (op_neD (hu64 hr)) (pv 1) pe_int (nomark _)) (pss_one (ps_par (i := 0) (j := 1) (by rfl) sc__law_gcd.nd rfl rfl (by decide) rfl rfl (pa_cons (pv 1) (pa_cons (pe_op op_modN (pe_callTy call_int1 (by rfl) T.m_int (by decide +kernel) (pa_cons (pv 0) pa_nil)) (pv 1)) pa_nil)) (by rfl))))
      (pss_one (ps_ret (pv 0))))), fun F0 x hx => ?_⟩
  obtain ⟨a, b⟩ := x
  refine wp_seq (wp_par (es_cons (evs_d (ev_cb (ea_cons (ev_var rfl) ea_nil) cd_abs)) (es_cons (evs_d (ev_cb (ea_cons (ev_var rfl) ea_nil) cd_abs)) esp_nil)) fun ss e => ⟨_, _, e, ?_⟩)
  refine wp_seq (wp_while (fun m Γ => ∃ x y : Nat, Γ = [.im (.int x), .im (.int y)] ∧ Nat.gcd x y = Int.gcd a b ∧ m = y) b.natAbs ?_ ?_)
  · exact ⟨a.natAbs, b.natAbs, by rw [iabs_natAbs, iabs_natAbs]; rfl, rfl, rfl⟩
  · rintro y Γ' ⟨x, _, rfl, hg, rfl⟩
    refine ⟨_, et_test (ev_op (ev_var rfl) ev_int (opd_ne (n := 0) (m := 0) rfl rfl (by decide) (by decide))), fun hb => ?_, fun hb => ?_⟩
    · rw [eqv_int] at hb
      have hy : y ≠ 0 := fun z => by subst z; simp at hb
      refine wp_par (es_cons (evs_d (ev_var rfl)) (es_cons (evs_d (ev_op (ev_cb (ea_cons (ev_var rfl) ea_nil) cd_int) (ev_var rfl) (opd_mod (by omega)))) esp_nil)) fun ss e => ⟨_, _, e, x % y, Nat.mod_lt _ (by omega), y, x % y, ?_, ?_, rfl⟩
      · rw [Int.fmod_eq_emod_of_nonneg _ (by omega)]
        rfl
      · rw [Nat.gcd_comm, ← Nat.gcd_rec, Nat.gcd_comm]
        exact hg
    · rw [eqv_int] at hb
      have hy : y = 0 := by simpa using hb
      subst hy
      refine wp_retD (ev_var rfl) ?_
      show PyData.int x = _
      rw [← hg, Nat.gcd_zero_right]
theorem fdiv_g {a b : Int} (h : 0 < b) (c : Int) : c.fdiv (Int.gcd a b : Nat) = c / (Int.gcd a b : Nat) := Int.fdiv_eq_ediv_of_nonneg _ (by omega)
theorem cdiv_g {a b : Int} (h : 0 < b) (h2 : b < 1073741824) (c : Int) : CDivN c (Int.gcd a b : Nat) := by
  have h1 := gcd_pos (a := a) h
  have h3 := gcd_le (a := a) h
  exact ⟨by omega, by omega⟩
theorem sc_reduced : FnScope ["numerator", "denominator", "common"] ["numerator", "denominator"] (defScope s_reduced) := ⟨rfl, rfl, rfl, by decide +kernel, rfl, by decide +kernel, by decide +kernel⟩
abbrev spRed : Sp := spA eII (fun p => 0 < p.2 ∧ p.2 < 1073741824) (fun p r => r = pI (rd p.1 p.2))
theorem ok_reduced (T : Tx mg) (F : Df K mg "reduced" s_reduced) (c_gcd : Cal P w K mg base 1 "gcd" spGcd []) : Cal P w K mg base 2 "reduced" spRed [] := by
  refine calA _ _ _ F sc_reduced rfl (by decide) (fun _ => rfl) (fun _ _ _ _ _ _ us hl => match us, hl with | [_, _], _ => rfl) fun f cdv A outer s H E hr => ⟨_,
    (pss_cons (ps_set (i := 2) sc_reduced.nd rfl (.inl rfl) (pe_c c_gcd hr (by decide) (by rfl) (pa_cons (pv 0) (pa_cons (pv 1) pa_nil))))
      (pss_cons (ps_if (pt_cmpR op_lt (pv 1) pe_int (nomark _)) (pss_one (ps_set (i := 2) sc_reduced.nd rfl (.inl rfl) (pe_un un_neg (pv 2)))) pss_nil)
      (pss_one (ps_ret (pe_tup (pa_cons (pe_op op_fdivN (pv 0) (pv 2)) (pa_cons (pe_op op_fdivN (pv 1) (pv 2)) pa_nil))))))), fun F0 x hx => ?_⟩
  obtain ⟨a, b⟩ := x
  obtain ⟨h1, h2⟩ := hx
  refine wp_seq (wp_set (ev_callA (a, b) (ea_cons (ev_var rfl) (ea_cons (ev_var rfl) ea_nil)) rfl trivial) ?_)
  refine wp_seq (wp_no (et_eq (et_test (ev_op (ev_var rfl) ev_int opd_lt)) (decide_eq_false (by show ¬ b < 0; omega))) (wp_next ?_))
  refine wp_retD (ev_tup (ea_cons (ev_op (ev_var rfl) (ev_var rfl) (opd_fdiv (cdiv_g h1 h2 _))) (ea_cons (ev_op (ev_var rfl) (ev_var rfl) (opd_fdiv (cdiv_g h1 h2 _))) ea_nil))) ?_
  show PyData.tuple [_, _] = _
  rw [fdiv_g h1, fdiv_g h1]
  rfl
theorem sc__law_ratio : FnScope ["_law_numerator", "_law_denominator", "_law_common"] ["_law_numerator", "_law_denominator"] (defScope s_law_ratio) := ⟨rfl, rfl, rfl, by decide +kernel, rfl, by decide +kernel, by decide +kernel⟩
theorem ok__law_ratio (T : Tx mg) (F : Df K mg "_law_ratio" s_law_ratio) (c__law_gcd : Cal P w K mg base 1 "_law_gcd" spGcd []) : Cal P w K mg base 2 "_law_ratio" spRed [] := by
  refine calA _ _ _ F sc__law_ratio rfl (by decide) (fun _ => rfl) (fun _ _ _ _ _ _ us hl => match us, hl with | [_, _], _ => rfl) fun f cdv A outer s H E hr => ⟨_,
    (pss_cons (ps_set (i := 2) sc__law_ratio.nd rfl (.inl rfl) (pe_c c__law_gcd hr (by decide) (by rfl) (pa_cons (pv 0) (pa_cons (pv 1) pa_nil))))
      (pss_cons (ps_set (i := 2) sc__law_ratio.nd rfl (.inl rfl) (pe_ifExp (pt_cmpR op_lt (pv 1) pe_int (nomark _)) (pe_op op_sub pe_int (pv 2)) (pv 2)))
      (pss_one (ps_ret (pe_tup (pa_cons (pe_op op_fdivN (pv 0) (pv 2)) (pa_cons (pe_op op_fdivN (pv 1) (pv 2)) pa_nil))))))), fun F0 x hx => ?_⟩
  obtain ⟨a, b⟩ := x
  obtain ⟨h1, h2⟩ := hx
  refine wp_seq (wp_set (ev_callA (a, b) (ea_cons (ev_var rfl) (ea_cons (ev_var rfl) ea_nil)) rfl trivial) ?_)
  refine wp_seq (wp_set (ev_eq (ev_if (et_test (ev_op (ev_var rfl) ev_int opd_lt)) (fun _ => ev_op ev_int (ev_var rfl) opd_sub) (fun _ => ev_var rfl)) (if_neg (by simp only [decide_eq_true_eq]; show ¬ b < 0; omega))) ?_)
  refine wp_retD (ev_tup (ea_cons (ev_op (ev_var rfl) (ev_var rfl) (opd_fdiv (cdiv_g h1 h2 _))) (ea_cons (ev_op (ev_var rfl) (ev_var rfl) (opd_fdiv (cdiv_g h1 h2 _))) ea_nil))) ?_
  show PyData.tuple [_, _] = _
  rw [fdiv_g h1, fdiv_g h1]
  rfl
theorem sc_times : FnScope ["one", "other"] ["one", "other"] (defScope s_times) := ⟨rfl, rfl, rfl, by decide +kernel, rfl, by decide +kernel, by decide +kernel⟩
abbrev eP2 (p : (Int × Int) × (Int × Int)) : List PyData := [pI p.1, pI p.2]
def Sm (i : Int) : Prop := -1000000 < i ∧ i < 1000000
theorem Sm.mul {i j : Int} (h : Sm i) : CMul i j := .inl ⟨by have := h.1; omega, by have := h.2; omega⟩
abbrev spTim : Sp := spA eP2 (fun p => Sm p.1.1 ∧ Sm p.1.2 ∧ 0 < p.1.2 * p.2.2 ∧ p.1.2 * p.2.2 < 1073741824) (fun p r => r = pI (rd (p.1.1 * p.2.1) (p.1.2 * p.2.2)))
theorem ok_times (T : Tx mg) (F : Df K mg "times" s_times) (c_reduced : Cal P w K mg base 2 "reduced" spRed []) : Cal P w K mg base 3 "times" spTim [] := by
  refine calA _ _ _ F sc_times rfl (by decide) (fun _ => rfl) (fun _ _ _ _ _ _ us hl => match us, hl with | [_, _], _ => rfl) fun f cdv A outer s H E hr => ⟨_,
    (pss_one (ps_ret (pe_c c_reduced hr (by decide) (by rfl) (pa_cons (pe_op op_mul (pe_ix ix_seq (pv 0) pe_int (fun _ _ => rfl)) (pe_ix ix_seq (pv 1) pe_int (fun _ _ => rfl))) (pa_cons (pe_op op_mul (pe_ix ix_seq (pv 0) pe_int (fun _ _ => rfl)) (pe_ix ix_seq (pv 1) pe_int (fun _ _ => rfl))) pa_nil))))), fun F0 x hx => ?_⟩
  obtain ⟨⟨a, b⟩, c, d⟩ := x
  obtain ⟨h1, h2, h3, h4⟩ := hx
  have ix : ∀ {i : Nat} {p : Int × Int} {B : Bs}, Ev B (tOp (rIx B.K) (tVar i) (tC (.int 0))) [.im (pI (a, b)), .im (pI (c, d))] (.int 0) → True := fun _ => trivial
  exact wp_retD (ev_callA (a * c, b * d) (ea_cons (ev_op (ev_op (ev_var rfl) ev_int (opd_ixT rfl)) (ev_op (ev_var rfl) ev_int (opd_ixT rfl)) (opd_mul h1.mul)) (ea_cons (ev_op (ev_op (ev_var rfl) ev_int (opd_ixT rfl)) (ev_op (ev_var rfl) ev_int (opd_ixT rfl)) (opd_mul h2.mul)) ea_nil)) rfl ⟨h3, h4⟩) rfl
theorem sc_is_in : FnScope ["value", "least", "most"] ["value", "least", "most"] (defScope s_is_in) := ⟨rfl, rfl, rfl, by decide +kernel, rfl, by decide +kernel, by decide +kernel⟩
abbrev eIII (p : Int × Int × Int) : List PyData := [.int p.1, .int p.2.1, .int p.2.2]
abbrev spIsIn : Sp := spA eIII (fun _ => True) (fun p r => r = .bool (decide (p.2.1 ≤ p.1) && decide (p.1 ≤ p.2.2)))
theorem ok_is_in (T : Tx mg) (F : Df K mg "is_in" s_is_in) : Cal P w K mg base 1 "is_in" spIsIn [] := by
  refine calA _ _ _ F sc_is_in rfl (by decide) (fun _ => rfl) (fun _ _ _ _ _ _ us hl => match us, hl with | [_, _, _], _ => rfl) fun f cdv A outer s H E hr => ⟨_,
    (pss_one (ps_ret (pe_and (pe_callB call_isi (by rfl) T.m_isinstance (by decide +kernel) (pa_cons (pv 0) (pa_cons (pe_bltn (v := .ty "int") (by rfl) T.m_int (by decide +kernel) rfl) pa_nil))) (pe_and (pe_not (pe_callB call_isi (by rfl) T.m_isinstance (by decide +kernel) (pa_cons (pv 0) (pa_cons (pe_bltn (v := .ty "bool") (by rfl) T.m_bool (by decide +kernel) rfl) pa_nil)))) (pe_one (pe_chain op_le op_le (pv 1) (pv 0) (pv 2))))))), fun F0 x hx => ?_⟩
  obtain ⟨a, b, c⟩ := x
  refine wp_retD (ev_andV (ev_isi (ev_var rfl) kit_ii) fun _ => ev_andV (ev_notV (ev_isi (ev_var rfl) kit_ib)) fun _ => ev_chain (ev_var rfl) (ev_var rfl) opd_le (fun _ => ev_var rfl) opd_le) ?_
  show PyData.bool _ = _
  rw [Bool.true_and]
  rfl
theorem sc__law_less : FnScope ["_law_one", "_law_other"] ["_law_one", "_law_other"] (defScope s_law_less) := ⟨rfl, rfl, rfl, by decide +kernel, rfl, by decide +kernel, by decide +kernel⟩
abbrev spLess : Sp := spA eP2 (fun p => Sm p.1.1 ∧ Sm p.2.1) (fun p r => r = .bool (decide (p.1.1 * p.2.2 < p.2.1 * p.1.2)))
theorem ok__law_less (T : Tx mg) (F : Df K mg "_law_less" s_law_less) : Cal P w K mg base 1 "_law_less" spLess [] := by
  refine calA _ _ _ F sc__law_less rfl (by decide) (fun _ => rfl) (fun _ _ _ _ _ _ us hl => match us, hl with | [_, _], _ => rfl) fun f cdv A outer s H E hr => ⟨_,
    (pss_one (ps_ret (pe_cmpR op_lt (pe_op op_mul (pe_ix ix_seq (pv 0) pe_int (fun _ _ => rfl)) (pe_ix ix_seq (pv 1) pe_int (fun _ _ => rfl))) (pe_op op_mul (pe_ix ix_seq (pv 1) pe_int (fun _ _ => rfl)) (pe_ix ix_seq (pv 0) pe_int (fun _ _ => rfl))) (nomark _)))), fun F0 x hx => ?_⟩
  obtain ⟨⟨a, b⟩, c, d⟩ := x
  obtain ⟨h1, h2⟩ := hx
  exact wp_retD (ev_op (ev_op (ev_op (ev_var rfl) ev_int (opd_ixT rfl)) (ev_op (ev_var rfl) ev_int (opd_ixT rfl)) (opd_mul h1.mul)) (ev_op (ev_op (ev_var rfl) ev_int (opd_ixT rfl)) (ev_op (ev_var rfl) ev_int (opd_ixT rfl)) (opd_mul h2.mul)) opd_lt) rfl
end
end Dl
set_option Elab.async false
set_option linter.all false
set_option maxRecDepth 100000
set_option maxHeartbeats 1000000
/-! Walks 2: flows, marks. -/
namespace Dl
open PySem PySem.Spec PyProof.Rows L2 C8 Rf
/-! ### flows -/
structure Pipe where
  one : Nat
  other : Nat
  give : Nat
  eat : Nat
  start : Nat
structure Flow where
  n : Nat
  ps : List Pipe
abbrev pipeD (p : Pipe) : PyData := .tuple [.int (p.one : Nat), .int (p.other : Nat), .int (p.give : Nat), .int (p.eat : Nat), .int (p.start : Nat)]
abbrev flowD (f : Flow) : PyData := .tuple [.int (f.n : Nat), .tuple (f.ps.map pipeD)]
abbrev natsD (l : List Nat) : List PyData := l.map fun c => .int (c : Nat)
structure Pipe.Ok (n : Nat) (p : Pipe) : Prop where
  one : p.one < n
  other : p.other < n
  give : 1 ≤ p.give ∧ p.give ≤ 8
  eat : 1 ≤ p.eat ∧ p.eat ≤ 8
  start : p.start ≤ 400
structure Flow.Ok (f : Flow) : Prop where
  n : 1 ≤ f.n ∧ f.n ≤ 3
  len : f.ps.length ≤ 4
  ok : ∀ p ∈ f.ps, p.Ok f.n
theorem pipeD_inj (p q : Pipe) (h : pipeD p = pipeD q) : p = q := by
  obtain ⟨a, b, c, d, e⟩ := p
  obtain ⟨a', b', c', d', e'⟩ := q
  simp only [pipeD, PyData.tuple.injEq, List.cons.injEq, PyData.int.injEq, Int.natCast_inj, and_true] at h
  obtain ⟨rfl, rfl, rfl, rfl, rfl⟩ := h
  rfl
theorem int_inj (a b : Nat) (h : PyData.int (a : Nat) = PyData.int (b : Nat)) : a = b := by
  injection h with h
  omega
/-! ### lists by what they stand for -/
theorem map_get {α β : Type} {xs : List α} {f : α → β} {i : Nat} {d : β} (h : (xs.map f)[i]? = some d) : ∃ x, xs[i]? = some x ∧ d = f x := by
  rw [List.getElem?_map] at h
  cases q : xs[i]? with
  | none => rw [q] at h; cases h
  | some x => rw [q] at h; exact ⟨x, rfl, (Option.some.inj h).symm⟩
theorem at_map {α : Type} {xs : List α} {f : α → PyData} {i : Nat} {x : α} (h : xs[i]? = some x) : atI (xs.map f) (i : Int) = some (f x) := atI_nat (by rw [List.getElem?_map, h]; rfl)
theorem lc_map {α : Type} {enc : α → PyData} (inj : ∀ x y, enc x = enc y → x = y) {f : α → Bool} {h : α → PyData} : ∀ {xs : List α} {es : List PyData}, LcR (fun d b => ∃ x, d = enc x ∧ b = f x) (fun d e => ∃ x, d = enc x ∧ e = h x) (xs.map enc) es → es = (xs.filter f).map h
  | [], _, lr => by cases lr; rfl
  | x :: xs, _, lr => by
    rw [List.map_cons] at lr
    cases lr with
    | yes a b t =>
      obtain ⟨y, e1, e2⟩ := a
      obtain ⟨z, e3, e4⟩ := b
      have := inj _ _ e1
      subst this
      have := inj _ _ e3
      subst this
      rw [List.filter_cons, if_pos e2.symm, List.map_cons, e4, lc_map inj t]
    | no a t =>
      obtain ⟨y, e1, e2⟩ := a
      have := inj _ _ e1
      subst this
      rw [List.filter_cons, if_neg (by rw [← e2]; simp), lc_map inj t]
theorem rng_map (n : Nat) : rngD 0 (n : Int).toNat = (List.range n).map fun i => PyData.int (i : Nat) := by
  unfold rngD
  simp
section
variable {B : Bs} {Γ : List Sk} {α : Type}
theorem ev_lcTm {K : PySem.W.Frag} {tl te : TE} {g : TG} {tt : TT} {vs : List Nat} {enc : α → PyData} {xs : List α} (f : α → Bool) (h : α → PyData) (inj : ∀ x y, enc x = enc y → x = y) (hl : Ev B tl Γ (.tuple (xs.map enc))) (hz : xs.length ≤ 100000)
    (ht : ∀ x ∈ xs, ∃ Γ2, BnN B g (enc x) vs (wipeG Γ vs) Γ2 ∧ Et B tt Γ2 (f x) ∧ (f x = true → Ev B te Γ2 (h x))) : Ev B (tLc (iTup K tl) g tt te vs) Γ (.list ((xs.filter f).map h)) := by
  refine evp_mono (evp_lcT (Pb := fun d b => ∃ x, d = enc x ∧ b = f x) (Pe := fun d e => ∃ x, d = enc x ∧ e = h x) hl (by rw [List.length_map]; exact hz) fun d hd => ?_) fun d ⟨es, e, lr⟩ => by rw [e, lc_map inj lr]
  obtain ⟨x, hx, rfl⟩ := List.mem_map.mp hd
  obtain ⟨Γ2, h1, h2, h3⟩ := ht x hx
  refine ⟨Γ2, h1, etp_mono h2 fun b e => ⟨x, rfl, e⟩, fun ⟨y, e1, e2⟩ => evp_mono (h3 ?_) fun e he => ⟨x, rfl, he⟩⟩
  rw [inj _ _ e1]
  exact e2.symm
theorem ev_lcLm {K : PySem.W.Frag} {tl te : TE} {g : TG} {tt : TT} {vs : List Nat} {enc : α → PyData} {xs : List α} (f : α → Bool) (h : α → PyData) (inj : ∀ x y, enc x = enc y → x = y) (hl : Ev B tl Γ (.list (xs.map enc))) (hz : xs.length ≤ 100000)
    (ht : ∀ x ∈ xs, ∃ Γ2, BnN B g (enc x) vs (wipeG Γ vs) Γ2 ∧ Et B tt Γ2 (f x) ∧ (f x = true → Ev B te Γ2 (h x))) : Ev B (tLc (iList K tl) g tt te vs) Γ (.list ((xs.filter f).map h)) := by
  refine evp_mono (evp_lcL (Pb := fun d b => ∃ x, d = enc x ∧ b = f x) (Pe := fun d e => ∃ x, d = enc x ∧ e = h x) hl (by rw [List.length_map]; exact hz) fun d hd => ?_) fun d ⟨es, e, lr⟩ => by rw [e, lc_map inj lr]
  obtain ⟨x, hx, rfl⟩ := List.mem_map.mp hd
  obtain ⟨Γ2, h1, h2, h3⟩ := ht x hx
  refine ⟨Γ2, h1, etp_mono h2 fun b e => ⟨x, rfl, e⟩, fun ⟨y, e1, e2⟩ => evp_mono (h3 ?_) fun e he => ⟨x, rfl, he⟩⟩
  rw [inj _ _ e1]
  exact e2.symm
theorem ev_lcRm {ta : TA} {te : TE} {g : TG} {tt : TT} {vs : List Nat} {n : Nat} (f : Nat → Bool) (h : Nat → PyData) (hl : Ea B ta Γ [.int (n : Nat)]) (hz : n ≤ 100000)
    (ht : ∀ i : Nat, i < n → ∃ Γ2, BnN B g (.int (i : Nat)) vs (wipeG Γ vs) Γ2 ∧ Et B tt Γ2 (f i) ∧ (f i = true → Ev B te Γ2 (h i))) : Ev B (tLc (iRng1 ta) g tt te vs) Γ (.list (((List.range n).filter f).map h)) := by
  refine evp_mono (evp_lcR1 (Pb := fun d b => ∃ x : Nat, d = .int (x : Nat) ∧ b = f x) (Pe := fun d e => ∃ x : Nat, d = .int (x : Nat) ∧ e = h x) hl (by omega) fun i hi => ?_) fun d ⟨es, e, lr⟩ => by
    rw [rng_map] at lr
    rw [e, lc_map int_inj lr]
  obtain ⟨Γ2, h1, h2, h3⟩ := ht i (by omega)
  refine ⟨Γ2, h1, etp_mono h2 fun b e => ⟨i, rfl, e⟩, fun ⟨y, e1, e2⟩ => evp_mono (h3 ?_) fun e he => ⟨i, rfl, he⟩⟩
  rw [int_inj _ _ e1]
  exact e2.symm
theorem flt_true (xs : List α) : xs.filter (fun _ => true) = xs := List.filter_eq_self.mpr fun _ _ => rfl
theorem ev_lcTy {K : PySem.W.Frag} {tl te : TE} {g : TG} {vs : List Nat} {enc : α → PyData} {xs : List α} (h : α → PyData) (inj : ∀ x y, enc x = enc y → x = y) (hl : Ev B tl Γ (.tuple (xs.map enc))) (hz : xs.length ≤ 100000)
    (ht : ∀ x ∈ xs, ∃ Γ2, BnN B g (enc x) vs (wipeG Γ vs) Γ2 ∧ Ev B te Γ2 (h x)) : Ev B (tLc (iTup K tl) g tYes te vs) Γ (.list (xs.map h)) :=
  ev_eq (ev_lcTm (fun _ => true) h inj hl hz fun x hx => let ⟨Γ2, h1, h2⟩ := ht x hx; ⟨Γ2, h1, etp_yes, fun _ => h2⟩) (by rw [flt_true])
theorem ev_lcLy {K : PySem.W.Frag} {tl te : TE} {g : TG} {vs : List Nat} {enc : α → PyData} {xs : List α} (h : α → PyData) (inj : ∀ x y, enc x = enc y → x = y) (hl : Ev B tl Γ (.list (xs.map enc))) (hz : xs.length ≤ 100000)
    (ht : ∀ x ∈ xs, ∃ Γ2, BnN B g (enc x) vs (wipeG Γ vs) Γ2 ∧ Ev B te Γ2 (h x)) : Ev B (tLc (iList K tl) g tYes te vs) Γ (.list (xs.map h)) :=
  ev_eq (ev_lcLm (fun _ => true) h inj hl hz fun x hx => let ⟨Γ2, h1, h2⟩ := ht x hx; ⟨Γ2, h1, etp_yes, fun _ => h2⟩) (by rw [flt_true])
theorem ev_lcRy {ta : TA} {te : TE} {g : TG} {vs : List Nat} {n : Nat} (h : Nat → PyData) (hl : Ea B ta Γ [.int (n : Nat)]) (hz : n ≤ 100000)
    (ht : ∀ i : Nat, i < n → ∃ Γ2, BnN B g (.int (i : Nat)) vs (wipeG Γ vs) Γ2 ∧ Ev B te Γ2 (h i)) : Ev B (tLc (iRng1 ta) g tYes te vs) Γ (.list ((List.range n).map h)) :=
  ev_eq (ev_lcRm (fun _ => true) h hl hz fun i hi => let ⟨Γ2, h1, h2⟩ := ht i hi; ⟨Γ2, h1, etp_yes, fun _ => h2⟩) (by rw [flt_true])
theorem ev_isin {t1 t2 t3 : TE} {E : XK} {i j k : Int} (e1 : Ev B t1 Γ (.int i)) (e2 : Ev B t2 Γ (.int j)) (e3 : Ev B t3 Γ (.int k)) (h : j ≤ i ∧ i ≤ k) : Ev B (tCall spIsIn [] E (tCons t1 (tCons t2 (tCons t3 tNil)))) Γ (.bool true) :=
  ev_eq (ev_callA (i, j, k) (ea_cons e1 (ea_cons e2 (ea_cons e3 ea_nil))) rfl trivial) (by simp [h.1, h.2])
/-- an item at a whole number -/
theorem ev_ixTm {K : PySem.W.Frag} {ta tb : TE} {enc : α → PyData} {xs : List α} {i : Nat} {x : α} (ha : Ev B ta Γ (.tuple (xs.map enc))) (hb : Ev B tb Γ (.int (i : Nat))) (h : xs[i]? = some x) : Ev B (tOp (rIx K) ta tb) Γ (enc x) := ev_op ha hb (opd_ixT (at_map h))
theorem ev_ixLm {K : PySem.W.Frag} {ta tb : TE} {enc : α → PyData} {xs : List α} {i : Nat} {x : α} (ha : Ev B ta Γ (.list (xs.map enc))) (hb : Ev B tb Γ (.int (i : Nat))) (h : xs[i]? = some x) : Ev B (tOp (rIx K) ta tb) Γ (enc x) := ev_op ha hb (opd_ixL (at_map h))
theorem et_eqI {K : PySem.W.Frag} {ta tb : TE} {i j : Int} (ha : Ev B ta Γ (.int i)) (hb : Ev B tb Γ (.int j)) : Et B (tTest (tOp (rEqD K) ta tb)) Γ (decide (i = j)) := et_test (ev_eq (ev_op ha hb (opd_eq (n := 0) (m := 0) rfl rfl (by decide) (by decide))) (by rw [eqv_int]))
theorem et_neI {K : PySem.W.Frag} {ta tb : TE} {i j : Int} (ha : Ev B ta Γ (.int i)) (hb : Ev B tb Γ (.int j)) : Et B (tTest (tOp (rNeD K) ta tb)) Γ (!decide (i = j)) := et_test (ev_eq (ev_op ha hb (opd_ne (n := 0) (m := 0) rfl rfl (by decide) (by decide))) (by rw [eqv_int]))
end
theorem natEq {a b : Nat} : decide ((a : Int) = (b : Int)) = decide (a = b) := by
  exact decide_eq_decide.mpr (by omega)
/-! ### marks, firings -/
def fire (f : Flow) (m : List Nat) (v : Nat) : List Nat := List.zipWith (fun p x => x + (if p.one = v then p.give else 0) - (if p.other = v then p.eat else 0)) f.ps m
def can (f : Flow) (m : List Nat) (v : Nat) : Prop := ∀ (i : Nat) (p : Pipe) (x : Nat), f.ps[i]? = some p → m[i]? = some x → p.other = v → p.eat ≤ x
def marks (f : Flow) : List Nat := f.ps.map (·.start)
theorem fire_len {f : Flow} {m : List Nat} {v : Nat} (h : m.length = f.ps.length) : (fire f m v).length = f.ps.length := by
  unfold fire
  rw [List.length_zipWith, h]
  omega
theorem fire_get {f : Flow} {m : List Nat} {v i : Nat} {p : Pipe} {x : Nat} (h1 : f.ps[i]? = some p) (h2 : m[i]? = some x) : (fire f m v)[i]? = some (x + (if p.one = v then p.give else 0) - (if p.other = v then p.eat else 0)) := by
  unfold fire
  rw [List.getElem?_zipWith, h1, h2]
theorem wp_noE {B : Bs} {Γ : List Sk} {P : Po} {c : TT} {t u : TS} {b : Bool} (h : Et B c Γ b) (e : b = false) (h1 : Wp B u Γ P) : Wp B (tIfS c t u) Γ P := wp_no (et_eq h e) h1
theorem wp_yesE {B : Bs} {Γ : List Sk} {P : Po} {c : TT} {t u : TS} {b : Bool} (h : Et B c Γ b) (e : b = true) (h1 : Wp B t Γ P) : Wp B (tIfS c t u) Γ P := wp_yes (et_eq h e) h1
section
variable {P : Program} {w : World} {K : PySem.W.Frag} {mg : PySem.Str → Option Value} {base : Heap}
theorem sc_is_pipe : FnScope ["value", "boxes"] ["value", "boxes"] (defScope s_is_pipe) := ⟨rfl, rfl, rfl, by decide +kernel, rfl, by decide +kernel, by decide +kernel⟩
abbrev spIsPipe : Sp := spA (fun x : Pipe × Nat => [pipeD x.1, .int (x.2 : Nat)]) (fun x => x.1.Ok x.2) (fun x r => r = .bool true)
theorem ok_is_pipe (T : Tx mg) (F : Df K mg "is_pipe" s_is_pipe) (c_is_in : Cal P w K mg base 1 "is_in" spIsIn []) : Cal P w K mg base 2 "is_pipe" spIsPipe [] := by
  refine calA _ _ _ F sc_is_pipe rfl (by decide) (fun _ => rfl) (fun _ _ _ _ _ _ us hl => match us, hl with | [_, _], _ => rfl) fun f cdv A outer s H E hr => ⟨_,
    (pss_cons (ps_if (PW.pt (pw_or (pt_not (pt_val (pe_callB call_isi (by rfl) T.m_isinstance (by decide +kernel) (pa_cons (pv 0) (pa_cons (pe_bltn (v := .ty "tuple") (by rfl) T.m_tuple (by decide +kernel) rfl) pa_nil))))) (pw_or1 (pt_cmpR (op_neD (hu64 hr)) (pe_callB call_len_seq (by rfl) T.m_len PySem.boot_len (pa_cons (pv 0) pa_nil)) pe_int (nomark _))))) (pss_one (ps_ret pe_bl)) pss_nil)
      (pss_cons (ps_if (PW.pt (pw_or (pt_not (pt_val (pe_c c_is_in hr (by decide) (by rfl) (pa_cons (pe_ix ix_seq (pv 0) pe_int (fun _ _ => rfl)) (pa_cons pe_int (pa_cons (pe_op op_sub (pv 1) pe_int) pa_nil)))))) (pw_or1 (pt_not (pt_val (pe_c c_is_in hr (by decide) (by rfl) (pa_cons (pe_ix ix_seq (pv 0) pe_int (fun _ _ => rfl)) (pa_cons pe_int (pa_cons (pe_op op_sub (pv 1) pe_int) pa_nil))))))))) (pss_one (ps_ret pe_bl)) pss_nil)
      (pss_cons (ps_if (PW.pt (pw_or (pt_not (pt_val (pe_c c_is_in hr (by decide) (by rfl) (pa_cons (pe_ix ix_seq (pv 0) pe_int (fun _ _ => rfl)) (pa_cons pe_int (pa_cons (pe_gc (by rfl) T.c_MOST_RATE) pa_nil)))))) (pw_or1 (pt_not (pt_val (pe_c c_is_in hr (by decide) (by rfl) (pa_cons (pe_ix ix_seq (pv 0) pe_int (fun _ _ => rfl)) (pa_cons pe_int (pa_cons (pe_gc (by rfl) T.c_MOST_RATE) pa_nil))))))))) (pss_one (ps_ret pe_bl)) pss_nil)
      (pss_one (ps_ret (pe_c c_is_in hr (by decide) (by rfl) (pa_cons (pe_ix ix_seq (pv 0) pe_int (fun _ _ => rfl)) (pa_cons pe_int (pa_cons (pe_gc (by rfl) T.c_MOST_TOKENS) pa_nil))))))))), fun F0 x hx => ?_⟩
  obtain ⟨⟨a, b, c, d, e⟩, n⟩ := x
  obtain ⟨h1, h2, h3, h4, h5⟩ := hx
  simp only at h1 h2 h3 h4 h5
  refine wp_seq (wp_noE (et_or (et_not (et_test (ev_isi (ev_var rfl) kit_tt))) fun _ => et_neI (ev_cb (ea_cons (ev_var rfl) ea_nil) cd_lenT) ev_int) rfl (wp_next ?_))
  refine wp_seq (wp_no (et_or (et_not (et_test (ev_isin (ev_op (ev_var rfl) ev_int (opd_ixT rfl)) ev_int (ev_op (ev_var rfl) ev_int opd_sub) (by dsimp only; omega)))) fun _ => et_not (et_test (ev_isin (ev_op (ev_var rfl) ev_int (opd_ixT rfl)) ev_int (ev_op (ev_var rfl) ev_int opd_sub) (by dsimp only; omega)))) (wp_next ?_))
  refine wp_seq (wp_no (et_or (et_not (et_test (ev_isin (ev_op (ev_var rfl) ev_int (opd_ixT rfl)) ev_int ev_int (by dsimp only; omega)))) fun _ => et_not (et_test (ev_isin (ev_op (ev_var rfl) ev_int (opd_ixT rfl)) ev_int ev_int (by dsimp only; omega)))) (wp_next ?_))
  exact wp_retD (ev_isin (ev_op (ev_var rfl) ev_int (opd_ixT rfl)) ev_int ev_int (by dsimp only; omega)) rfl
theorem sc_need_flow : FnScope ["flow", "index", "pipe"] ["flow"] (defScope s_need_flow) := ⟨rfl, rfl, rfl, by decide +kernel, rfl, by decide +kernel, by decide +kernel⟩
abbrev eF (f : Flow) : List PyData := [flowD f]
abbrev spNeedFlow : Sp := spA eF Flow.Ok (fun _ r => r = .none)
theorem ok_need_flow (T : Tx mg) (F : Df K mg "need_flow" s_need_flow) (c_is_in : Cal P w K mg base 1 "is_in" spIsIn []) (c_is_pipe : Cal P w K mg base 2 "is_pipe" spIsPipe []) : Cal P w K mg base 3 "need_flow" spNeedFlow [] := by
  refine calA _ _ _ F sc_need_flow rfl (by decide) (fun _ => rfl) (fun _ _ _ _ _ _ us hl => match us, hl with | [_], _ => rfl) fun f cdv A outer s H E hr => ⟨_,
    (pss_cons (ps_if (PW.pt (pw_or (pt_not (pt_val (pe_callB call_isi (by rfl) T.m_isinstance (by decide +kernel) (pa_cons (pv 0) (pa_cons (pe_bltn (v := .ty "tuple") (by rfl) T.m_tuple (by decide +kernel) rfl) pa_nil))))) (pw_or (pt_cmpR (op_neD (hu64 hr)) (pe_callB call_len_seq (by rfl) T.m_len PySem.boot_len (pa_cons (pv 0) pa_nil)) pe_int (nomark _)) (pw_or1 (pt_not (pt_val (pe_c c_is_in hr (by decide) (by rfl) (pa_cons (pe_ix ix_seq (pv 0) pe_int (fun _ _ => rfl)) (pa_cons pe_int (pa_cons (pe_gc (by rfl) T.c_MOST_BOXES) pa_nil)))))))))) pss_never pss_nil)
      (pss_cons (ps_if (PW.pt (pw_or (pt_not (pt_val (pe_callB call_isi (by rfl) T.m_isinstance (by decide +kernel) (pa_cons (pe_ix ix_seq (pv 0) pe_int (fun _ _ => rfl)) (pa_cons (pe_bltn (v := .ty "tuple") (by rfl) T.m_tuple (by decide +kernel) rfl) pa_nil))))) (pw_or1 (pt_cmpR op_gt (pe_callB call_len_seq (by rfl) T.m_len PySem.boot_len (pa_cons (pe_ix ix_seq (pv 0) pe_int (fun _ _ => rfl)) pa_nil)) (pe_gc (by rfl) T.c_MOST_PIPES) (nomark _))))) pss_never pss_nil)
      (pss_one (ps_for PassesOwn.never rfl (pi_enumT (by rfl) T.m_enumerate (pa_cons (pe_ix ix_seq (pv 0) pe_int (fun _ _ => rfl)) pa_nil)) (pg_tup rfl (pgs_cons (pg_name (i := 1) sc_need_flow.nd rfl (.inl rfl)) (pgs_cons (pg_name (i := 2) sc_need_flow.nd rfl (.inl rfl)) pgs_nil))) (pss_one (ps_if (pt_not (pt_val (pe_c c_is_pipe hr (by decide) (by rfl) (pa_cons (pv 2) (pa_cons (pe_ix ix_seq (pv 0) pe_int (fun _ _ => rfl)) pa_nil))))) pss_never pss_nil)))))), fun F0 x hx => ?_⟩
  obtain ⟨h1, h2, h3⟩ := hx
  refine wp_seq (wp_noE (et_or (et_not (et_test (ev_isi (ev_var rfl) kit_tt))) fun _ => et_or (et_neI (ev_cb (ea_cons (ev_var rfl) ea_nil) cd_lenT) ev_int) fun _ => et_not (et_test (ev_isin (ev_op (ev_var rfl) ev_int (opd_ixT rfl)) ev_int ev_int (by omega)))) rfl (wp_next ?_))
  refine wp_seq (wp_noE (et_or (et_not (et_test (ev_isi (ev_op (ev_var rfl) ev_int (opd_ixT rfl)) kit_tt))) fun _ => et_test (ev_op (ev_cb (ea_cons (ev_op (ev_var rfl) ev_int (opd_ixT rfl)) ea_nil) cd_lenT) ev_int opd_gt)) (by rw [List.length_map]; simp; omega) (wp_next ?_))
  refine wp_forET (fun _ Γ => ∃ s t, Γ = [.im (flowD x), s, t]) (ea_cons (ev_op (ev_var rfl) ev_int (opd_ixT rfl)) ea_nil) ⟨_, _, rfl⟩ (fun i d Γ' hd ⟨s, t, e⟩ => ?_) (fun Γ' ⟨s, t, e⟩ => rfl)
  subst e
  obtain ⟨p, hp, rfl⟩ := map_get hd
  refine tg_tup rfl (bts_name (bts_name (bts_nil ?_)))
  refine wp_noE (et_not (et_test (ev_callA (p, x.n) (ea_cons (ev_var rfl) (ea_cons (ev_op (ev_var rfl) ev_int (opd_ixT rfl)) ea_nil)) rfl (h3 p (List.mem_of_getElem? hp))))) rfl (wp_next ⟨_, _, rfl⟩)
theorem sc_marks_in : FnScope ["flow", "pipe"] ["flow"] (defScope s_marks_in) := ⟨rfl, rfl, rfl, by decide +kernel, rfl, by decide +kernel, by decide +kernel⟩
abbrev spMarks : Sp := spA eF (fun f => f.ps.length ≤ 100000) (fun f r => r = .tuple (natsD (marks f)))
theorem ok_marks_in (T : Tx mg) (F : Df K mg "marks_in" s_marks_in) : Cal P w K mg base 1 "marks_in" spMarks [] := by
  refine calA _ _ _ F sc_marks_in rfl (by decide) (fun _ => rfl) (fun _ _ _ _ _ _ us hl => match us, hl with | [_], _ => rfl) fun f cdv A outer s H E hr => ⟨_,
    (pss_one (ps_ret (pe_callTy call_tuple_of (by rfl) T.m_tuple (by decide +kernel) (pa_cons (pe_lc (own := [("pipe", 1)]) (g := (gName 1)) (tt := tYes) rfl sc_marks_in.nd (pi_tup (pe_ix ix_seq (pv 0) pe_int (fun _ _ => rfl))) (blkOk_by (own := [("pipe", 1)]) (N := ["flow", "pipe"]) (sc := defScope s_marks_in) (by decide +kernel)) (fun _ _ _ _ _ => (pg_name (i := 1) sc_marks_in.nd rfl (.inl rfl))) (fun _ _ _ _ _ => pts_nil) (fun _ _ _ _ _ => (pe_ix (ix_seqK (K := K) rfl) (pv 1) pe_int (fun _ _ => rfl)))) pa_nil)))), fun F0 x hx => ?_⟩
  refine wp_retD (ev_cb (ea_cons (ev_lcTy (fun p => .int (p.start : Nat)) pipeD_inj (ev_op (ev_var rfl) ev_int (opd_ixT rfl)) hx fun p _ => ⟨_, bn_name (by simp), ev_op (ev_var rfl) ev_int (opd_ixT rfl)⟩) ea_nil) cd_tuple) ?_
  show PyData.tuple _ = _
  simp [marks, natsD, Function.comp_def]
theorem sc__law_some : FnScope ["_law_flow_here", "_law_pipe"] ["_law_flow_here"] (defScope s_law_some) := ⟨rfl, rfl, rfl, by decide +kernel, rfl, by decide +kernel, by decide +kernel⟩
theorem ok__law_some (T : Tx mg) (F : Df K mg "_law_some" s_law_some) : Cal P w K mg base 1 "_law_some" spMarks [] := by
  refine calA _ _ _ F sc__law_some rfl (by decide) (fun _ => rfl) (fun _ _ _ _ _ _ us hl => match us, hl with | [_], _ => rfl) fun f cdv A outer s H E hr => ⟨_,
    (pss_one (ps_ret (pe_callTy call_tuple_of (by rfl) T.m_tuple (by decide +kernel) (pa_cons (pe_lc (own := [("_law_pipe", 1)]) (g := (gName 1)) (tt := tYes) rfl sc__law_some.nd (pi_tup (pe_ix ix_seq (pv 0) pe_int (fun _ _ => rfl))) (blkOk_by (own := [("_law_pipe", 1)]) (N := ["_law_flow_here", "_law_pipe"]) (sc := defScope s_law_some) (by decide +kernel)) (fun _ _ _ _ _ => (pg_name (i := 1) sc__law_some.nd rfl (.inl rfl))) (fun _ _ _ _ _ => pts_nil) (fun _ _ _ _ _ => (pe_ix (ix_seqK (K := K) rfl) (pv 1) pe_int (fun _ _ => rfl)))) pa_nil)))), fun F0 x hx => ?_⟩
  refine wp_retD (ev_cb (ea_cons (ev_lcTy (fun p => .int (p.start : Nat)) pipeD_inj (ev_op (ev_var rfl) ev_int (opd_ixT rfl)) hx fun p _ => ⟨_, bn_name (by simp), ev_op (ev_var rfl) ev_int (opd_ixT rfl)⟩) ea_nil) cd_tuple) ?_
  show PyData.tuple _ = _
  simp [marks, natsD, Function.comp_def]
end
end Dl
set_option Elab.async false
set_option linter.all false
set_option maxRecDepth 100000
set_option maxHeartbeats 1000000
/-! Walks 3: firings. -/
namespace Dl
open PySem PySem.Spec PyProof.Rows L2 C8 Rf
abbrev marksD (m : List Nat) : PyData := .tuple (natsD m)
theorem set_ml {Γ Γ' : List Sk} {i : Nat} {a b : List PyData} (h : a = b) (e : Γ.set i (.ml b) = Γ') : Γ.set i (.ml a) = Γ' := h ▸ e
theorem ixN_n {n j : Nat} (hj : j < n) : ixN n (j : Int) = some j := by
  unfold ixN
  rw [if_pos (Int.natCast_nonneg j), if_pos (Int.ofNat_lt.mpr hj), Int.toNat_natCast]
theorem take_set {α : Type} {xs ys : List α} {i : Nat} {x : α} (hl : ys.length = xs.length) (h : xs[i]? = some x) : (xs.take i ++ ys.drop i).set i x = xs.take (i + 1) ++ ys.drop (i + 1) := by
  obtain ⟨hi, e⟩ := List.getElem?_eq_some_iff.mp h
  have l1 : (xs.take i).length = i := by rw [List.length_take]; omega
  rw [List.set_append_right _ _ (by omega), l1, Nat.sub_self, List.drop_eq_getElem_cons (by omega : i < ys.length), List.set_cons_zero, List.take_add_one, h]
  simp
theorem natsD_set (m : List Nat) (i a : Nat) : (natsD m).set i (.int (a : Nat)) = natsD (m.set i a) := by
  unfold natsD
  rw [List.map_set]
theorem mid_get {α : Type} {xs ys : List α} {i : Nat} (hl : ys.length = xs.length) (hi : i < xs.length) : (xs.take i ++ ys.drop i)[i]? = ys[i]? := by
  have l1 : (xs.take i).length = i := by rw [List.length_take]; omega
  rw [List.getElem?_append_right (by omega), l1, Nat.sub_self, List.getElem?_drop, Nat.add_zero]
theorem mid_len {α : Type} {xs ys : List α} {i : Nat} (hl : ys.length = xs.length) (hi : i ≤ xs.length) : (xs.take i ++ ys.drop i).length = xs.length := by
  rw [List.length_append, List.length_take, List.length_drop]
  omega
theorem isA (c : Prop) [Decidable c] (a : Nat) : (if decide c = true then PyData.int (a : Nat) else PyData.int 0) = PyData.int ((if c then a else 0 : Nat) : Nat) := by
  by_cases h : c <;> simp [h]
theorem fire_int {x g e : Nat} (h : e ≤ x) : (x : Int) + ((g : Int) - (e : Int)) = ((x + g - e : Nat) : Int) := by omega
section
variable {P : Program} {w : World} {K : PySem.W.Frag} {mg : PySem.Str → Option Value} {base : Heap}
abbrev eFMV (x : Flow × List Nat × Nat) : List PyData := [flowD x.1, marksD x.2.1, .int (x.2.2 : Nat)]
def Len (x : Flow × List Nat × Nat) : Prop := x.2.1.length = x.1.ps.length ∧ x.1.ps.length ≤ 100
theorem sc_lacks : FnScope ["flow", "some", "box", "index", "one", "other", "give", "eat", "start"] ["flow", "some", "box"] (defScope s_lacks) := ⟨rfl, rfl, rfl, by decide +kernel, rfl, by decide +kernel, by decide +kernel⟩
abbrev spLacks : Sp := spA eFMV Len (fun x r => isNone r = true ↔ can x.1 x.2.1 x.2.2)
theorem ok_lacks (T : Tx mg) (F : Df K mg "lacks" s_lacks) : Cal P w K mg base 1 "lacks" spLacks [] := by
  refine calA _ _ _ F sc_lacks rfl (by decide) (fun _ => rfl) (fun _ _ _ _ _ _ us hl => match us, hl with | [_, _, _], _ => rfl) fun f cdv A outer s H E hr => ⟨_,
    (pss_cons (ps_for PassesOwn.never rfl (pi_enumT (by rfl) T.m_enumerate (pa_cons (pe_ix ix_seq (pv 0) pe_int (fun _ _ => rfl)) pa_nil)) (pg_tup rfl (pgs_cons (pg_name (i := 3) sc_lacks.nd rfl (.inl rfl)) (pgs_cons (pg_tup rfl (pgs_cons (pg_name (i := 4) sc_lacks.nd rfl (.inl rfl)) (pgs_cons (pg_name (i := 5) sc_lacks.nd rfl (.inl rfl)) (pgs_cons (pg_name (i := 6) sc_lacks.nd rfl (.inl rfl)) (pgs_cons (pg_name (i := 7) sc_lacks.nd rfl (.inl rfl)) (pgs_cons (pg_name (i := 8) sc_lacks.nd rfl (.inl rfl)) pgs_nil)))))) pgs_nil))) (pss_one (ps_if (PW.pt (pw_and (pt_cmpR (op_eqD (hu64 hr)) (pv 5) (pv 2) (nomark _)) (pw_and1 (pt_cmpR op_lt (pe_ix ix_seq (pv 1) (pv 3) (fun _ _ => rfl)) (pv 7) (nomark _))))) (pss_one (ps_ret (pv 3))) pss_nil)))
      (pss_one (ps_ret pe_non))), fun F0 x hx => ?_⟩
  obtain ⟨f, m, v⟩ := x
  obtain ⟨hl, hz⟩ := hx
  simp only at hl hz
  show Wp _ _ ([.im (flowD f), .im (marksD m), .im (.int (v : Nat))] ++ List.replicate _ .un) _
  refine wp_seq (wp_forET (fun i Γ => (∃ a b c d e g, Γ = [.im (flowD f), .im (marksD m), .im (.int (v : Nat)), a, b, c, d, e, g]) ∧ ∀ (j : Nat) (p : Pipe) (y : Nat), j < i → f.ps[j]? = some p → m[j]? = some y → p.other = v → p.eat ≤ y)
    (ea_cons (ev_op (ev_var rfl) ev_int (opd_ixT rfl)) ea_nil) ⟨⟨_, _, _, _, _, _, rfl⟩, fun j p y hj => absurd hj (Nat.not_lt_zero j)⟩ (fun i d Γ' hd ⟨⟨a, b, c, d', e, g, eΓ⟩, hi⟩ => ?_) (fun Γ' ⟨⟨a, b, c, d', e, g, eΓ⟩, hi⟩ => ?_))
  · subst eΓ
    obtain ⟨p, hp, rfl⟩ := map_get hd
    have lt : i < m.length := by rw [hl]; exact (List.getElem?_eq_some_iff.mp hp).1
    obtain ⟨y, hy⟩ : ∃ y, m[i]? = some y := ⟨m[i], List.getElem?_eq_getElem lt⟩
    refine tg_tup rfl (bts_name (bts_tup (es := []) rfl (bts_name (bts_name (bts_name (bts_name (bts_name (bts_nil (bts_nil ?_)))))))))
    refine wp_ifD (et_and (et_eqI (ev_var rfl) (ev_var rfl)) fun _ => et_test (ev_op (ev_ixTm (ev_var rfl) (ev_var rfl) hy) (ev_var rfl) opd_lt)) (fun hb => ?_) (fun hb => wp_next ⟨⟨_, _, _, _, _, _, rfl⟩, fun j q u hj h1 h2 h3 => ?_⟩)
    · rw [Bool.and_eq_true, decide_eq_true_eq, decide_eq_true_eq] at hb
      refine wp_retD (ev_var rfl) ?_
      refine ⟨fun z => (nomatch z), fun z => ?_⟩
      have := z i p y hp hy (by show p.other = v; omega)
      omega
    · by_cases z : j = i
      · subst z
        rw [hp] at h1
        rw [hy] at h2
        cases h1
        cases h2
        rw [Bool.and_eq_false_iff, decide_eq_false_iff_not, decide_eq_false_iff_not] at hb
        omega
      · exact hi j q u (by omega) h1 h2 h3
  · subst eΓ
    refine wp_retD ev_non ⟨fun _ => fun j p y h1 h2 h3 => hi j p y ?_ h1 h2 h3, fun _ => rfl⟩
    have := (List.getElem?_eq_some_iff.mp h1).1
    rw [List.length_map]
    exact this
theorem sc_behind : FnScope ["flow", "some", "box", "found", "index", "one", "other", "give", "eat", "start"] ["flow", "some", "box"] (defScope s_behind) := ⟨rfl, rfl, rfl, by decide +kernel, rfl, by decide +kernel, by decide +kernel⟩
abbrev spBehind : Sp := spA eFMV (fun x => Len x ∧ can x.1 x.2.1 x.2.2) (fun x r => r = marksD (fire x.1 x.2.1 x.2.2))
theorem ok_behind (T : Tx mg) (F : Df K mg "behind" s_behind) : Cal P w K mg base 1 "behind" spBehind [] := by
  refine calA _ _ _ F sc_behind rfl (by decide) (fun _ => rfl) (fun _ _ _ _ _ _ us hl => match us, hl with | [_, _, _], _ => rfl) fun f cdv A outer s H E hr => ⟨_,
    (pss_cons (ps_set (i := 3) sc_behind.nd rfl (.inl rfl) (pe_callTy call_list_of (by rfl) T.m_list (by decide +kernel) (pa_cons (pv 1) pa_nil)))
      (pss_cons (ps_for PassesOwn.never rfl (pi_enumT (by rfl) T.m_enumerate (pa_cons (pe_ix ix_seq (pv 0) pe_int (fun _ _ => rfl)) pa_nil)) (pg_tup rfl (pgs_cons (pg_name (i := 4) sc_behind.nd rfl (.inl rfl)) (pgs_cons (pg_tup rfl (pgs_cons (pg_name (i := 5) sc_behind.nd rfl (.inl rfl)) (pgs_cons (pg_name (i := 6) sc_behind.nd rfl (.inl rfl)) (pgs_cons (pg_name (i := 7) sc_behind.nd rfl (.inl rfl)) (pgs_cons (pg_name (i := 8) sc_behind.nd rfl (.inl rfl)) (pgs_cons (pg_name (i := 9) sc_behind.nd rfl (.inl rfl)) pgs_nil)))))) pgs_nil))) (pss_one (ps_augS (pv 3) (pv 4) get_list (pe_op op_sub (pe_ifExp (pt_cmpR (op_eqD (hu64 hr)) (pv 5) (pv 2) (nomark _)) (pv 7) pe_int) (pe_ifExp (pt_cmpR (op_eqD (hu64 hr)) (pv 6) (pv 2) (nomark _)) (pv 8) pe_int)) ip_add set_list)))
      (pss_one (ps_ret (pe_callTy call_tuple_of (by rfl) T.m_tuple (by decide +kernel) (pa_cons (pv 3) pa_nil)))))), fun F0 x hx => ?_⟩
  obtain ⟨f, m, v⟩ := x
  obtain ⟨⟨hl, hz⟩, hc⟩ := hx
  simp only at hl hz hc
  show Wp _ _ ([.im (flowD f), .im (marksD m), .im (.int (v : Nat))] ++ List.replicate _ .un) _
  have fl : (fire f m v).length = f.ps.length := fire_len hl
  refine wp_seq (wp_setS (evs_list (.inr (ea_cons (ev_var rfl) ea_nil))) ?_)
  refine wp_seq (wp_forET (fun i Γ => ∃ a b c d e g, Γ = [.im (flowD f), .im (marksD m), .im (.int (v : Nat)), .ml (natsD ((fire f m v).take i ++ m.drop i)), a, b, c, d, e, g])
    (ea_cons (ev_op (ev_var rfl) ev_int (opd_ixT rfl)) ea_nil) ⟨_, _, _, _, _, _, rfl⟩ (fun i d Γ' hd ⟨a, b, c, d', e, g, eΓ⟩ => ?_) (fun Γ' ⟨a, b, c, d', e, g, eΓ⟩ => ?_))
  · subst eΓ
    obtain ⟨p, hp, rfl⟩ := map_get hd
    have lt : i < f.ps.length := (List.getElem?_eq_some_iff.mp hp).1
    obtain ⟨y, hy⟩ : ∃ y, m[i]? = some y := ⟨m[i], List.getElem?_eq_getElem (by omega)⟩
    refine tg_tup rfl (bts_name (bts_tup (es := []) rfl (bts_name (bts_name (bts_name (bts_name (bts_name (bts_nil (bts_nil ?_)))))))))
    have he : (if p.other = v then p.eat else 0) ≤ y := by
      split
      · exact hc i p y hp hy ‹_›
      · exact Nat.zero_le _
    have hm : ((fire f m v).take i ++ m.drop i)[i]? = some y := by rw [mid_get (by omega) (by omega), hy]
    refine wp_augS (z := (i : Nat)) (a := (y : Nat)) (j := i) rfl (ev_var rfl) (by omega) (ixN_n (by rw [List.length_map, mid_len (by omega) (by omega)]; omega)) (by rw [List.getElem?_map, hm]; rfl)
      (ev_op (ev_eq (ev_if (et_eqI (ev_var rfl) (ev_var rfl)) (fun _ => ev_var rfl) (fun _ => ev_int)) (isA _ _)) (ev_eq (ev_if (et_eqI (ev_var rfl) (ev_var rfl)) (fun _ => ev_var rfl) (fun _ => ev_int)) (isA _ _)) opd_sub) ?_
    refine ⟨_, _, _, _, _, _, set_ml (b := natsD ((fire f m v).take (i + 1) ++ m.drop (i + 1))) ?_ rfl⟩
    simp only [Int.natCast_inj]
    rw [fire_int he, natsD_set, take_set (by omega) (fire_get hp hy)]
  · subst eΓ
    refine wp_freeze (i := 3) rfl rfl (wp_retD (ev_cb (ea_cons (ev_var rfl) ea_nil) cd_tuple) ?_)
    show PyData.tuple _ = _
    rw [List.length_map, ← fl, List.take_length, fl, ← hl, List.drop_length, List.append_nil]
theorem sc__law_can : FnScope ["_law_flow_here", "_law_some_here", "_law_box", "_law_k"] ["_law_flow_here", "_law_some_here", "_law_box"] (defScope s_law_can) := ⟨rfl, rfl, rfl, by decide +kernel, rfl, by decide +kernel, by decide +kernel⟩
abbrev spCan : Sp := spA eFMV Len (fun x r => ∃ b : Bool, r = .bool b ∧ (b = true ↔ can x.1 x.2.1 x.2.2))
theorem ok__law_can (T : Tx mg) (F : Df K mg "_law_can" s_law_can) : Cal P w K mg base 1 "_law_can" spCan [] := by
  refine calA _ _ _ F sc__law_can rfl (by decide) (fun _ => rfl) (fun _ _ _ _ _ _ us hl => match us, hl with | [_, _, _], _ => rfl) fun f cdv A outer s H E hr => ⟨_,
    (pss_one (ps_ret (pe_cmpR (op_eqD (hu64 hr)) (pe_lc (own := [("_law_k", 3)]) (g := (gName 3)) rfl sc__law_can.nd (pi_range1 (by rfl) T.m_range (pa_cons (pe_callB call_len_seq (by rfl) T.m_len PySem.boot_len (pa_cons (pv 1) pa_nil)) pa_nil)) (blkOk_by (own := [("_law_k", 3)]) (N := ["_law_flow_here", "_law_some_here", "_law_box", "_law_k"]) (sc := defScope s_law_can) (by decide +kernel)) (fun _ _ _ _ _ => (pg_name (i := 3) sc__law_can.nd rfl (.inl rfl))) (fun _ _ _ _ _ => (pts_one (PW.pt (pw_and (pt_cmpR (op_eqDK (K := K) rfl (hu64 hr)) (pe_ix (ix_seqK (K := K) rfl) (pe_ix (ix_seqK (K := K) rfl) (pe_ix (ix_seqK (K := K) rfl) (pv 0) pe_int (fun _ _ => rfl)) (pv 3) (fun _ _ => rfl)) pe_int (fun _ _ => rfl)) (pv 2) (nomark _)) (pw_and1 (pt_cmpR op_gt (pe_ix (ix_seqK (K := K) rfl) (pe_ix (ix_seqK (K := K) rfl) (pe_ix (ix_seqK (K := K) rfl) (pv 0) pe_int (fun _ _ => rfl)) (pv 3) (fun _ _ => rfl)) pe_int (fun _ _ => rfl)) (pe_ix (ix_seqK (K := K) rfl) (pv 1) (pv 3) (fun _ _ => rfl)) (nomark _))))))) (fun _ _ _ _ _ => (pv 3))) (pe_lst pa_nil) (nomark _)))), fun F0 x hx => ?_⟩
  obtain ⟨f, m, v⟩ := x
  obtain ⟨hl, hz⟩ := hx
  simp only at hl hz
  show Wp _ _ ([.im (flowD f), .im (marksD m), .im (.int (v : Nat))] ++ List.replicate _ .un) _
  refine wp_ret (ev_op (ev_lcRm (n := m.length) (fun k => match f.ps[k]?, m[k]? with | some p, some y => decide (p.other = v) && decide (y < p.eat) | _, _ => false) (fun k => .int (k : Nat))
    (ea_cons (ev_cb (ea_cons (ev_var rfl) ea_nil) (by have := cd_lenT (K := K) (ds := natsD m); rw [List.length_map] at this; exact this)) ea_nil) (by omega) fun k hk => ?_) (ev_lst ea_nil) (opd_eq (n := 1) (m := 1) ?_ rfl (by decide) (by decide))) ?_
  · obtain ⟨p, hp⟩ : ∃ p, f.ps[k]? = some p := ⟨f.ps[k], List.getElem?_eq_getElem (by omega)⟩
    obtain ⟨y, hy⟩ : ∃ y, m[k]? = some y := ⟨m[k], List.getElem?_eq_getElem (by omega)⟩
    rw [hp, hy]
    refine ⟨_, bn_name (by simp), et_eq (et_and (et_eqI (ev_op (ev_ixTm (ev_op (ev_var rfl) ev_int (opd_ixT rfl)) (ev_var rfl) hp) ev_int (opd_ixT rfl)) (ev_var rfl)) fun _ => et_test (ev_op (ev_op (ev_ixTm (ev_op (ev_var rfl) ev_int (opd_ixT rfl)) (ev_var rfl) hp) ev_int (opd_ixT rfl)) (ev_ixTm (ev_var rfl) (ev_var rfl) hy) opd_gt)) ?_, fun _ => ev_var rfl⟩
    rw [natEq]
    congr 1
    exact decide_eq_decide.mpr (by omega)
  · simp [Pl]
  · rintro d rfl
    refine ⟨_, rfl, ?_⟩
    have key : ∀ l : List Nat, (PyData.eqv (.list (l.map fun k => .int (k : Nat))) (.list []) = true) ↔ l = [] := by
      intro l
      cases l <;> simp [PyData.eqv, PyData.eqvAll]
    rw [key, List.filter_eq_nil_iff]
    constructor
    · intro h i p y h1 h2 h3
      have := h i (List.mem_range.mpr (List.getElem?_eq_some_iff.mp h2).1)
      rw [h1, h2] at this
      simp [h3] at this
      exact this
    · intro h i hi
      obtain ⟨p, hp⟩ : ∃ p, f.ps[i]? = some p := ⟨_, List.getElem?_eq_getElem (by have := List.mem_range.mp hi; omega)⟩
      obtain ⟨y, hy⟩ : ∃ y, m[i]? = some y := ⟨_, List.getElem?_eq_getElem (List.mem_range.mp hi)⟩
      rw [hp, hy]
      simp
      exact fun z => h i p y hp hy z
theorem sc__law_next : FnScope ["_law_flow_here", "_law_some_here", "_law_box", "_law_found", "_law_k", "_law_one", "_law_other", "_law_give", "_law_eat", "_law_start"] ["_law_flow_here", "_law_some_here", "_law_box"] (defScope s_law_next) := ⟨rfl, rfl, rfl, by decide +kernel, rfl, by decide +kernel, by decide +kernel⟩
theorem ok__law_next (T : Tx mg) (F : Df K mg "_law_next" s_law_next) : Cal P w K mg base 1 "_law_next" spBehind [] := by
  refine calA _ _ _ F sc__law_next rfl (by decide) (fun _ => rfl) (fun _ _ _ _ _ _ us hl => match us, hl with | [_, _, _], _ => rfl) fun f cdv A outer s H E hr => ⟨_,
    (pss_cons (ps_set (i := 3) sc__law_next.nd rfl (.inl rfl) (pe_lst pa_nil))
      (pss_cons (ps_for PassesOwn.never rfl (pi_range1 (by rfl) T.m_range (pa_cons (pe_callB call_len_seq (by rfl) T.m_len PySem.boot_len (pa_cons (pv 1) pa_nil)) pa_nil)) (pg_name (i := 4) sc__law_next.nd rfl (.inl rfl)) (pss_cons (ps_asg (pe_ix ix_seq (pe_ix ix_seq (pv 0) pe_int (fun _ _ => rfl)) (pv 4) (fun _ _ => rfl)) (pg_tup rfl (pgs_cons (pg_name (i := 5) sc__law_next.nd rfl (.inl rfl)) (pgs_cons (pg_name (i := 6) sc__law_next.nd rfl (.inl rfl)) (pgs_cons (pg_name (i := 7) sc__law_next.nd rfl (.inl rfl)) (pgs_cons (pg_name (i := 8) sc__law_next.nd rfl (.inl rfl)) (pgs_cons (pg_name (i := 9) sc__law_next.nd rfl (.inl rfl)) pgs_nil)))))))
      (pss_one (ps_expr (pe_bm PySem.F.plainAttrs_list PySem.F.slot_list_append PySem.F.type_list_append mt_append (pv 3) (pa_cons (pe_op op_add (pe_op op_sub (pe_ix ix_seq (pv 1) (pv 4) (fun _ _ => rfl)) (pe_ifExp (pt_cmpR (op_eqD (hu64 hr)) (pv 6) (pv 2) (nomark _)) (pv 8) pe_int)) (pe_ifExp (pt_cmpR (op_eqD (hu64 hr)) (pv 5) (pv 2) (nomark _)) (pv 7) pe_int)) pa_nil))))))
      (pss_one (ps_ret (pe_callTy call_tuple_of (by rfl) T.m_tuple (by decide +kernel) (pa_cons (pv 3) pa_nil)))))), fun F0 x hx => ?_⟩
  obtain ⟨f, m, v⟩ := x
  obtain ⟨⟨hl, hz⟩, hc⟩ := hx
  simp only at hl hz hc
  show Wp _ _ ([.im (flowD f), .im (marksD m), .im (.int (v : Nat))] ++ List.replicate _ .un) _
  have fl : (fire f m v).length = f.ps.length := fire_len hl
  refine wp_seq (wp_setS evs_nil ?_)
  refine wp_seq (wp_forR1 (n := (m.length : Nat)) (Pn := fun _ => True) (fun i Γ => ∃ a b c d e g, Γ = [.im (flowD f), .im (marksD m), .im (.int (v : Nat)), .ml (natsD ((fire f m v).take i)), a, b, c, d, e, g])
    (ea_cons (ev_cb (ea_cons (ev_var rfl) ea_nil) (by have := cd_lenT (K := K) (ds := natsD m); rw [List.length_map] at this; exact this)) ea_nil) (by omega) ⟨_, _, _, _, _, _, rfl⟩ (fun i Γ' hi ⟨a, b, c, d', e, g, eΓ⟩ => ?_) (fun Γ' ⟨a, b, c, d', e, g, eΓ⟩ => ?_))
  · subst eΓ
    obtain ⟨p, hp⟩ : ∃ p, f.ps[i]? = some p := ⟨f.ps[i], List.getElem?_eq_getElem (by omega)⟩
    obtain ⟨y, hy⟩ : ∃ y, m[i]? = some y := ⟨m[i], List.getElem?_eq_getElem (by omega)⟩
    have he : (if p.other = v then p.eat else 0) ≤ y := by
      split
      · exact hc i p y hp hy ‹_›
      · exact Nat.zero_le _
    refine tg_name (wp_seq (wp_asgG (ev_ixTm (ev_op (ev_var rfl) ev_int (opd_ixT rfl)) (ev_var rfl) hp) fun d e => ?_))
    subst e
    refine tg_tup rfl (bts_name (bts_name (bts_name (bts_name (bts_name (bts_nil ?_))))))
    refine wp_append rfl (ev_op (ev_op (ev_ixTm (ev_var rfl) (ev_var rfl) hy) (ev_eq (ev_if (et_eqI (ev_var rfl) (ev_var rfl)) (fun _ => ev_var rfl) (fun _ => ev_int)) (isA _ _)) opd_sub) (ev_eq (ev_if (et_eqI (ev_var rfl) (ev_var rfl)) (fun _ => ev_var rfl) (fun _ => ev_int)) (isA _ _)) opd_add) (by rw [List.length_map, List.length_take]; omega) fun d e => ?_
    subst e
    refine ⟨_, _, _, _, _, _, set_ml (b := natsD ((fire f m v).take (i + 1))) ?_ rfl⟩
    simp only [Int.natCast_inj]
    have e2 : (y : Int) - ((if p.other = v then p.eat else 0 : Nat) : Int) + ((if p.one = v then p.give else 0 : Nat) : Int) = ((y + (if p.one = v then p.give else 0) - (if p.other = v then p.eat else 0) : Nat) : Int) := by omega
    rw [e2, List.take_add_one, fire_get hp hy]
    unfold natsD
    rw [List.map_append]
    rfl
  · subst eΓ
    refine wp_freeze (i := 3) rfl rfl (wp_retD (ev_cb (ea_cons (ev_var rfl) ea_nil) cd_tuple) ?_)
    show PyData.tuple _ = _
    rw [Int.toNat_natCast, hl, ← fl, List.take_length]
end
end Dl
set_option Elab.async false
set_option linter.all false
set_option maxRecDepth 100000
set_option maxHeartbeats 1000000
/-! Walks 4: words of firings, the greedy runs. -/
namespace Dl
open PySem PySem.Spec PyProof.Rows L2 C8 Rf
/-! ### words -/
inductive Run (f : Flow) : List Nat → List Nat → Prop
  | nil : Run f [] (marks f)
  | snoc {w m : List Nat} {v : Nat} : Run f w m → v < f.n → can f m v → Run f (w ++ [v]) (fire f m v)
theorem Run.len {f : Flow} : ∀ {w m : List Nat}, Run f w m → m.length = f.ps.length
  | _, _, .nil => by simp [marks]
  | _, _, .snoc r _ _ => fire_len r.len
def rv (r : List Nat) (v : Nat) : Nat := r.getD v 0
def cnt (n : Nat) (w : List Nat) : List Nat := (List.range n).map fun v => w.count v
def gap (n : Nat) (r w : List Nat) : Nat := ((List.range n).map fun v => rv r v - w.count v).sum
structure Under (f : Flow) (r w m : List Nat) : Prop where
  run : Run f w m
  le : ∀ v, v < f.n → w.count v ≤ rv r v
def Stuck (f : Flow) (r w m : List Nat) (v : Nat) : Prop := w.count v < rv r v → ¬ can f m v
structure Full (f : Flow) (r w m : List Nat) : Prop extends Under f r w m where
  st : ∀ v, v < f.n → Stuck f r w m v
theorem cnt_len (n : Nat) (w : List Nat) : (cnt n w).length = n := by simp [cnt]
theorem cnt_get {n v : Nat} {w : List Nat} (h : v < n) : (cnt n w)[v]? = some (w.count v) := by
  unfold cnt
  rw [List.getElem?_map, List.getElem?_range h]
  rfl
theorem count_snoc (w : List Nat) (v u : Nat) : (w ++ [v]).count u = w.count u + if v = u then 1 else 0 := by
  rw [List.count_append, List.count_singleton]
  by_cases h : v = u <;> simp [h]
theorem cnt_snoc {n v : Nat} {w : List Nat} (h : v < n) : (cnt n w).set v (w.count v + 1) = cnt n (w ++ [v]) := by
  refine List.ext_getElem? fun i => ?_
  by_cases hi : i < n
  · rw [cnt_get hi, List.getElem?_set, count_snoc]
    by_cases e : v = i
    · subst e
      rw [if_pos rfl, if_pos (by rw [cnt_len]; exact h), if_pos rfl]
    · rw [if_neg e, cnt_get hi, if_neg e]
      rfl
  · rw [List.getElem?_eq_none (by rw [List.length_set, cnt_len]; omega), List.getElem?_eq_none (by rw [cnt_len]; omega)]
theorem sum_le {l : List Nat} {f g : Nat → Nat} (h : ∀ i ∈ l, f i ≤ g i) : (l.map f).sum ≤ (l.map g).sum := by
  induction l with
  | nil => exact Nat.le_refl _
  | cons a l ih =>
    rw [List.map_cons, List.map_cons, List.sum_cons, List.sum_cons]
    have := ih fun i hi => h i (List.mem_cons_of_mem _ hi)
    have := h a List.mem_cons_self
    omega
theorem sum_lt {l : List Nat} {f g : Nat → Nat} (h : ∀ i ∈ l, f i ≤ g i) {j : Nat} (hj : j ∈ l) (hlt : f j < g j) : (l.map f).sum < (l.map g).sum := by
  induction l with
  | nil => cases hj
  | cons a l ih =>
    rw [List.map_cons, List.map_cons, List.sum_cons, List.sum_cons]
    have h0 := h a List.mem_cons_self
    rcases List.mem_cons.mp hj with e | hj
    · subst e
      have := sum_le (l := l) (f := f) (g := g) fun i hi => h i (List.mem_cons_of_mem _ hi)
      omega
    · have := ih (fun i hi => h i (List.mem_cons_of_mem _ hi)) hj
      omega
theorem gap_lt {n v : Nat} {r w : List Nat} (hv : v < n) (h : w.count v < rv r v) : gap n r (w ++ [v]) < gap n r w := by
  refine sum_lt (fun i _ => ?_) (List.mem_range.mpr hv) ?_
  · rw [count_snoc]
    omega
  · rw [count_snoc, if_pos rfl]
    omega
theorem Under.snoc {f : Flow} {r w m : List Nat} {v : Nat} (u : Under f r w m) (hv : v < f.n) (h : w.count v < rv r v) (hc : can f m v) : Under f r (w ++ [v]) (fire f m v) := by
  refine ⟨.snoc u.run hv hc, fun x hx => ?_⟩
  rw [count_snoc]
  have := u.le x hx
  by_cases e : v = x
  · subst e
    rw [if_pos rfl]
    omega
  · rw [if_neg e]
    omega
/-! ### rules -/
section
variable {B : Bs} {Γ : List Sk}
theorem etp_and {t u : TT} {Pa P : Bool → Prop} (h1 : EtP B t Γ Pa) (h2 : Pa true → EtP B u Γ P) (h3 : Pa false → P false) : EtP B (tAnd t u) Γ P := fun F H σ o Q q =>
  h1 F H σ o _ fun c F1 H1 e g1 r1 => by
    cases c with
    | true =>
      show u σ H1 Q
      exact h2 e F1 H1 σ (o.grow g1 r1) Q fun d F2 H2 e g2 r2 => q d F2 H2 e (g1.trans g2) r2
    | false =>
      show Q false H1
      exact q false F1 H1 (h3 e) g1 r1
theorem etp_or {t u : TT} {Pa P : Bool → Prop} (h1 : EtP B t Γ Pa) (h2 : Pa false → EtP B u Γ P) (h3 : Pa true → P true) : EtP B (tOr t u) Γ P := fun F H σ o Q q =>
  h1 F H σ o _ fun c F1 H1 e g1 r1 => by
    cases c with
    | false =>
      show u σ H1 Q
      exact h2 e F1 H1 σ (o.grow g1 r1) Q fun d F2 H2 e g2 r2 => q d F2 H2 e (g1.trans g2) r2
    | true =>
      show Q true H1
      exact q true F1 H1 (h3 e) g1 r1
theorem etp_not {t : TT} {Pa P : Bool → Prop} (h1 : EtP B t Γ Pa) (h2 : ∀ b, Pa b → P (!b)) : EtP B (tNot t) Γ P := fun F H σ o Q q => h1 F H σ o _ fun c F1 H1 e g1 r1 => q (!c) F1 H1 (h2 c e) g1 r1
theorem opd_mono {r : R2} {da db : PyData} {P P' : PyData → Prop} (h : OpD r da db P) (k : ∀ d, P d → P' d) : OpD r da db P' := fun F H x y e hx hy Q q => h F H x y e hx hy Q fun d v F' H' p => q d v F' H' (k d p)
end
section
variable {P : Program} {w : World} {K : PySem.W.Frag} {mg : PySem.Str → Option Value} {base : Heap}
abbrev eFR (x : Flow × List Nat) : List PyData := [flowD x.1, .list (natsD x.2)]
structure RunOk (x : Flow × List Nat) : Prop where
  n : x.1.n ≤ 100
  ps : x.1.ps.length ≤ 100
  r : x.2.length = x.1.n
  s : x.2.sum ≤ 2000
theorem rv_get {r : List Nat} {v : Nat} (h : v < r.length) : r[v]? = some (rv r v) := by
  unfold rv
  rw [List.getD_eq_getElem?_getD, List.getElem?_eq_getElem h]
  rfl
def MostPost (x : Flow × List Nat) (d : PyData) : Prop := ∃ w m, Full x.1 x.2 w m ∧ d = .tuple [.list (natsD (cnt x.1.n w)), marksD m]
theorem sc_most_in : FnScope ["flow", "counts", "done", "some", "going", "box"] ["flow", "counts"] (defScope s_most_in) := ⟨rfl, rfl, rfl, by decide +kernel, rfl, by decide +kernel, by decide +kernel⟩
abbrev spMost : Sp := spA eFR RunOk MostPost
theorem zeros (n : Nat) : (List.replicate ((n : Int)).toNat [PyData.int 0]).flatten = natsD (cnt n []) := by
  rw [Int.toNat_natCast]
  unfold natsD cnt
  rw [List.map_map]
  have : ∀ l : List Nat, l.map ((fun c : Nat => PyData.int (c : Nat)) ∘ fun v => List.count v []) = List.replicate l.length (PyData.int 0) := by
    intro l
    induction l with
    | nil => rfl
    | cons a l ih => rw [List.map_cons, ih]; rfl
  rw [this, List.length_range]
  induction n with
  | zero => rfl
  | succ n ih => rw [List.replicate_succ, List.flatten_cons, ih]; rfl
theorem ok_most_in (T : Tx mg) (F : Df K mg "most_in" s_most_in) (c_behind : Cal P w K mg base 1 "behind" spBehind []) (c_lacks : Cal P w K mg base 1 "lacks" spLacks []) (c_marks_in : Cal P w K mg base 1 "marks_in" spMarks []) : Cal P w K mg base 2 "most_in" spMost [] := by
  refine calA _ _ _ F sc_most_in rfl (by decide) (fun _ => rfl) (fun _ _ _ _ _ _ us hl => match us, hl with | [_, _], _ => rfl) fun f cdv A outer s H E hr => ⟨_,
    (pss_cons (ps_par3 (i := 2) (j := 3) (l := 4) (by rfl) sc_most_in.nd rfl rfl rfl (by decide) (by decide) (by decide) rfl rfl rfl (pa_cons (pe_op op_rep (pe_lst (pa_cons pe_int pa_nil)) (pe_ix ix_seq (pv 0) pe_int (fun _ _ => rfl))) (pa_cons (pe_c c_marks_in hr (by decide) (by rfl) (pa_cons (pv 0) pa_nil)) (pa_cons pe_bl pa_nil))) (by rfl))
      (pss_cons (ps_while PassesOwn.never (pt_val (pv 4)) (pss_cons (ps_set (i := 4) sc_most_in.nd rfl (.inl rfl) pe_bl)
      (pss_one (ps_for PassesOwn.never rfl (pi_range1 (by rfl) T.m_range (pa_cons (pe_ix ix_seq (pv 0) pe_int (fun _ _ => rfl)) pa_nil)) (pg_name (i := 5) sc_most_in.nd rfl (.inl rfl)) (pss_one (ps_while PassesOwn.never (PW.pt (pw_and (pt_cmpR op_lt (pe_ix ix_seq (pv 2) (pv 5) (fun _ _ => rfl)) (pe_ix ix_seq (pv 1) (pv 5) (fun _ _ => rfl)) (nomark _)) (pw_and1 (pt_cmpR op_isN (pe_c c_lacks hr (by decide) (by rfl) (pa_cons (pv 0) (pa_cons (pv 3) (pa_cons (pv 5) pa_nil)))) pe_non (nomark _))))) (pss_cons (ps_set (i := 3) sc_most_in.nd rfl (.inl rfl) (pe_c c_behind hr (by decide) (by rfl) (pa_cons (pv 0) (pa_cons (pv 3) (pa_cons (pv 5) pa_nil)))))
      (pss_cons (ps_augS (pv 2) (pv 5) get_list pe_int ip_add set_list)
      (pss_one (ps_set (i := 4) sc_most_in.nd rfl (.inl rfl) pe_bl))))))))))
      (pss_one (ps_ret (pe_tup (pa_cons (pv 2) (pa_cons (pv 3) pa_nil))))))), fun F0 x hx => ?_⟩
  obtain ⟨f, r⟩ := x
  obtain ⟨h1, h2, h3, h4⟩ := hx
  simp only at h1 h2 h3 h4
  show Wp _ _ ([.im (flowD f), .im (.list (natsD r))] ++ List.replicate _ .un) _
  refine wp_seq (wp_par3 (esp_cons (evs_rep (ev_lst (ea_cons ev_int ea_nil)) (ev_op (ev_var rfl) ev_int (opd_ixT rfl)) (by omega) (by simp; omega)) (fun _ _ => esp_cons (evs_im (ev_callA f (ea_cons (ev_var rfl) ea_nil) rfl (by omega))) (fun _ _ => esp_cons (evs_d ev_bl) (fun _ _ => esp_nil) (P := fun ss => ss = [.im (.bool true)]) (fun _ _ e1 e2 => by rw [e1, e2]))
    (P := fun ss => ss = [.im (marksD (marks f)), .im (.bool true)]) (fun s ss ⟨d, e1, e2⟩ e3 => by rw [e1, e2, e3])) (P := fun ss => ss = [.ml (natsD (cnt f.n [])), .im (marksD (marks f)), .im (.bool true)]) (fun s ss e1 e2 => by rw [e1, e2, zeros])) fun ss e => ⟨_, _, _, e, ?_⟩)
  refine wp_seq (wp_while (fun k Γ => ∃ w m g s5, Γ = [.im (flowD f), .im (.list (natsD r)), .ml (natsD (cnt f.n w)), .im (marksD m), .im (.bool g), s5] ∧ Under f r w m ∧ (g = true → gap f.n r w < k) ∧ (g = false → ∀ v, v < f.n → Stuck f r w m v)) (gap f.n r [] + 1) ?_ ?_)
  · exact ⟨[], marks f, true, _, rfl, ⟨.nil, fun v _ => Nat.zero_le _⟩, fun _ => Nat.lt_succ_self _, fun z => nomatch z⟩
  · rintro k Γ' ⟨w, m, g, s5, rfl, un, hg1, hg2⟩
    refine ⟨fun b => b = g, et_B (ev_var rfl), fun e => ?_, fun e => ?_⟩
    · subst e
      have hk := hg1 rfl
      refine wp_seq (wp_set ev_bl ?_)
      refine wp_forR1 (n := (f.n : Nat)) (Pn := fun _ => True) (fun i Γ => ∃ w' m' g s5, Γ = [.im (flowD f), .im (.list (natsD r)), .ml (natsD (cnt f.n w')), .im (marksD m'), .im (.bool g), s5] ∧ Under f r w' m' ∧ gap f.n r w' ≤ gap f.n r w ∧ (g = true → gap f.n r w' < gap f.n r w) ∧ (g = false → ∀ v, v < i → Stuck f r w' m' v))
        (ea_cons (ev_op (ev_var rfl) ev_int (opd_ixT rfl)) ea_nil) (by omega) ⟨w, m, false, _, rfl, un, Nat.le_refl _, fun z => (nomatch z), fun _ v hv => absurd hv (Nat.not_lt_zero v)⟩ (fun i Γ' hi ⟨w1, m1, g1, s5', e, un1, a1, a2, a3⟩ => ?_) (fun Γ' ⟨w1, m1, g1, s5', e, un1, a1, a2, a3⟩ => ?_)
      · subst e
        have hi : i < f.n := by omega
        refine tg_name (wp_while (fun k Γ => ∃ w' m' g, Γ = [.im (flowD f), .im (.list (natsD r)), .ml (natsD (cnt f.n w')), .im (marksD m'), .im (.bool g), .im (.int (i : Nat))] ∧ Under f r w' m' ∧ gap f.n r w' = k ∧ gap f.n r w' ≤ gap f.n r w ∧ (g = true → gap f.n r w' < gap f.n r w) ∧ (g = false → ∀ v, v < i → Stuck f r w' m' v)) (gap f.n r w1) ⟨w1, m1, g1, rfl, un1, rfl, a1, a2, a3⟩ ?_)
        rintro k Γ' ⟨w2, m2, g2, rfl, un2, rfl, b1, b2, b3⟩
        refine ⟨fun b => (b = true ↔ (w2.count i < rv r i ∧ can f m2 i)), etp_and (et_test (ev_op (ev_ixM rfl (ev_var rfl) (at_map (cnt_get hi))) (ev_ixLm (ev_var rfl) (ev_var rfl) (rv_get (by omega))) opd_lt)) (fun e => ?_) (fun e => ?_), fun hb => ?_, fun hb => ?_⟩
        · have lt : w2.count i < rv r i := by have := of_decide_eq_true e.symm; omega
          refine etp_mono (etp_test (evp_op (ev_callA (f, m2, i) (ea_cons (ev_var rfl) (ea_cons (ev_var rfl) (ea_cons (ev_var rfl) ea_nil))) rfl ⟨un2.run.len, h2⟩) (fun _ _ => ev_non) (P := fun z => ∃ b, z = .bool b ∧ (b = true ↔ can f m2 i)) fun da db pa e => opd_mono (opd_isN e) fun d e => ⟨_, e, pa⟩) fun d h => h) fun b hb => ?_
          rw [hb]
          exact ⟨fun z => ⟨lt, z⟩, fun z => z.2⟩
        · have nlt : ¬ w2.count i < rv r i := by have := of_decide_eq_false e.symm; omega
          exact ⟨fun z => (nomatch z), fun z => absurd z.1 nlt⟩
        · obtain ⟨lt, hc⟩ := hb.mp rfl
          refine wp_seq (wp_setP (ev_callA (f, m2, i) (ea_cons (ev_var rfl) (ea_cons (ev_var rfl) (ea_cons (ev_var rfl) ea_nil))) rfl ⟨⟨un2.run.len, h2⟩, hc⟩) fun d e => ?_)
          subst e
          refine wp_seq (wp_augS (z := (i : Nat)) (a := (w2.count i : Nat)) (b := 1) (j := i) rfl (ev_var rfl) (by omega) (ixN_n (by rw [List.length_map, cnt_len]; exact hi)) (by rw [List.getElem?_map, cnt_get hi]; rfl) ev_int ?_)
          have gl := gap_lt hi lt
          refine wp_set ev_bl ⟨_, gl, w2 ++ [i], fire f m2 i, true, ?_, un2.snoc hi lt hc, rfl, by omega, fun _ => by omega, fun z => nomatch z⟩
          have e2 : (natsD (cnt f.n w2)).set i (.int ((w2.count i : Nat) + 1)) = natsD (cnt f.n (w2 ++ [i])) := by
            rw [← cnt_snoc hi, ← natsD_set]
            rfl
          show [_, _, Sk.ml _, _, _, _] = _
          rw [e2]
        · have st : Stuck f r w2 m2 i := fun lt hc => by
            have := hb.mpr ⟨lt, hc⟩
            cases this
          refine ⟨w2, m2, g2, _, rfl, un2, b1, b2, fun e v hv => ?_⟩
          by_cases z : v = i
          · rw [z]; exact st
          · exact b3 e v (by omega)
      · subst e
        refine ⟨if g1 = true then gap f.n r w1 + 1 else 0, ?_, w1, m1, g1, _, rfl, un1, fun e => ?_, fun e v hv => a3 e v (by omega)⟩
        · cases g1 with
          | true => rw [if_pos rfl]; have := a2 rfl; omega
          | false => rw [if_neg (by simp)]; omega
        · rw [if_pos e]
          exact Nat.lt_succ_self _
    · subst e
      refine wp_freeze (i := 2) rfl rfl (wp_retD (ev_tup (ea_cons (ev_var rfl) (ea_cons (ev_var rfl) ea_nil))) ⟨w, m, ⟨un, hg2 rfl⟩, rfl⟩)
theorem sc_does : FnScope ["flow", "counts"] ["flow", "counts"] (defScope s_does) := ⟨rfl, rfl, rfl, by decide +kernel, rfl, by decide +kernel, by decide +kernel⟩
abbrev spDoes : Sp := spA eFR RunOk (fun x d => ∃ w m, Full x.1 x.2 w m ∧ d = .bool (decide (cnt x.1.n w = x.2)))
theorem eqv_nats : ∀ (a b : List Nat), PyData.eqv (.list (natsD a)) (.list (natsD b)) = decide (a = b) := by
  intro a
  have : ∀ a b : List Nat, PyData.eqvAll (natsD a) (natsD b) = decide (a = b) := by
    intro a
    induction a with
    | nil => intro b; cases b <;> rfl
    | cons x a ih =>
      intro b
      cases b with
      | nil => rfl
      | cons y b =>
        show (PyData.eqv (.int (x : Nat)) (.int (y : Nat)) && PyData.eqvAll (natsD a) (natsD b)) = _
        rw [eqv_int, ih, natEq]
        by_cases h : x = y <;> by_cases h' : a = b <;> simp [h, h']
  intro b
  exact this a b
theorem pl_nats (a : List Nat) : Pl 1 (.list (natsD a)) = true := by simp [Pl, natsD]
theorem ok_does (T : Tx mg) (F : Df K mg "does" s_does) (c_most_in : Cal P w K mg base 2 "most_in" spMost []) : Cal P w K mg base 3 "does" spDoes [] := by
  refine calA _ _ _ F sc_does rfl (by decide) (fun _ => rfl) (fun _ _ _ _ _ _ us hl => match us, hl with | [_, _], _ => rfl) fun f cdv A outer s H E hr => ⟨_,
    (pss_one (ps_ret (pe_cmpR (op_eqD (hu64 hr)) (pe_ix ix_seq (pe_c c_most_in hr (by decide) (by rfl) (pa_cons (pv 0) (pa_cons (pv 1) pa_nil))) pe_int (fun _ _ => rfl)) (pe_callTy call_list_of (by rfl) T.m_list (by decide +kernel) (pa_cons (pv 1) pa_nil)) (nomark _)))), fun F0 x hx => ?_⟩
  obtain ⟨f, r⟩ := x
  refine wp_ret (evp_op (evp_op (ev_callA (f, r) (ea_cons (ev_var rfl) (ea_cons (ev_var rfl) ea_nil)) rfl hx) (fun _ _ => ev_int) (P := fun d => ∃ w m, Full f r w m ∧ d = .list (natsD (cnt f.n w))) fun da db ⟨w, m, h, e⟩ e2 => ?_) (fun _ _ => ev_cb (ea_cons (ev_var rfl) ea_nil) cd_list) (P := fun d => ∃ w m, Full f r w m ∧ d = .bool (decide (cnt f.n w = r))) fun da db ⟨w, m, h, e⟩ e2 => ?_) fun d h => h
  · subst e e2
    exact opd_mono (opd_ixT rfl) fun d e => ⟨w, m, h, e⟩
  · subst e e2
    refine opd_mono (opd_eq (pl_nats _) (pl_nats _) (by decide) (by decide)) fun d e => ⟨w, m, h, ?_⟩
    rw [e, eqv_nats]
end
end Dl
set_option Elab.async false
set_option linter.all false
set_option maxRecDepth 100000
set_option maxHeartbeats 1000000
/-! Walks 5: the law's greedy run, flows with other marks. -/
namespace Dl
open PySem PySem.Spec PyProof.Rows L2 C8 Rf
noncomputable instance canDec (f : Flow) (m : List Nat) (v : Nat) : Decidable (can f m v) := Classical.propDecidable _
noncomputable def fits (f : Flow) (r w m : List Nat) : List Nat := (List.range f.n).filter fun v => decide (w.count v < rv r v ∧ can f m v)
theorem fits_mem {f : Flow} {r w m : List Nat} {v : Nat} : v ∈ fits f r w m ↔ v < f.n ∧ w.count v < rv r v ∧ can f m v := by
  unfold fits
  rw [List.mem_filter, List.mem_range, decide_eq_true_eq]
theorem atI_last1 {l : List Nat} {v : Nat} {enc : Nat → PyData} : atI ((l ++ [v]).map enc) (-1) = some (enc v) := by
  rw [List.map_append]
  exact atI_last _ _
def withStart (f : Flow) (m : List Nat) : Flow := ⟨f.n, List.zipWith (fun p x => { p with start := x }) f.ps m⟩
section
variable {P : Program} {w : World} {K : PySem.W.Frag} {mg : PySem.Str → Option Value} {base : Heap}
theorem sc__law_do : FnScope ["_law_flow_here", "_law_counts", "_law_some_here", "_law_done", "_law_turn", "_law_fits", "_law_box"] ["_law_flow_here", "_law_counts"] (defScope s_law_do) := ⟨rfl, rfl, rfl, by decide +kernel, rfl, by decide +kernel, by decide +kernel⟩
theorem gap_nil {n : Nat} {r : List Nat} (h : r.length = n) : gap n r [] = r.sum := by
  subst h
  unfold gap
  have : (List.range r.length).map (fun v => rv r v - List.count v []) = r := by
    refine List.ext_getElem? fun i => ?_
    by_cases hi : i < r.length
    · rw [List.getElem?_map, List.getElem?_range hi, rv_get hi]
      simp
    · rw [List.getElem?_eq_none (by simp; omega), List.getElem?_eq_none (by omega)]
  rw [this]
theorem nat_sum (r : List Nat) : (r.map fun c : Nat => (c : Int)).sum = ((r.sum : Nat) : Int) := by
  induction r with
  | nil => rfl
  | cons a r ih => rw [List.map_cons, List.sum_cons, List.sum_cons, ih]; omega
theorem cd_sumN {K : PySem.W.Frag} {r : List Nat} : CallD (rSum K) [.list (natsD r)] (fun x => x = .int (r.sum : Nat)) := by
  have h := cd_sum (K := K) (ns := r.map fun c : Nat => (c : Int))
  rw [nat_sum, List.map_map] at h
  exact h
theorem ok__law_do (T : Tx mg) (F : Df K mg "_law_do" s_law_do) (c__law_can : Cal P w K mg base 1 "_law_can" spCan []) (c__law_next : Cal P w K mg base 1 "_law_next" spBehind []) (c__law_some : Cal P w K mg base 1 "_law_some" spMarks []) : Cal P w K mg base 2 "_law_do" spMost [] := by
  refine calA _ _ _ F sc__law_do rfl (by decide) (fun _ => rfl) (fun _ _ _ _ _ _ us hl => match us, hl with | [_, _], _ => rfl) fun f cdv A outer s H E hr => ⟨_,
    (pss_cons (ps_asg (pe_tup (pa_cons (pe_c c__law_some hr (by decide) (by rfl) (pa_cons (pv 0) pa_nil)) (pa_cons (pe_op op_rep (pe_lst (pa_cons pe_int pa_nil)) (pe_ix ix_seq (pv 0) pe_int (fun _ _ => rfl))) pa_nil))) (pg_tup rfl (pgs_cons (pg_name (i := 2) sc__law_do.nd rfl (.inr rfl)) (pgs_cons (pg_name (i := 3) sc__law_do.nd rfl (.inr rfl)) pgs_nil))))
      (pss_cons (ps_for PassesOwn.never rfl (pi_range1 (by rfl) T.m_range (pa_cons (pe_op op_add (pe_callB (cr_sum rfl) (by rfl) T.m_sum (by decide +kernel) (pa_cons (pv 1) pa_nil)) pe_int) pa_nil)) (pg_name (i := 4) sc__law_do.nd rfl (.inl rfl)) (pss_cons (ps_setLc (i := 5) (own := [("_law_box", 6)]) (g := (gName 6)) rfl sc__law_do.nd rfl rfl (sw_true rfl rfl rfl (by decide +kernel)) (pi_range1 (by rfl) T.m_range (pa_cons (pe_ix ix_seq (pv 0) pe_int (fun _ _ => rfl)) pa_nil)) (blkOk_by (own := [("_law_box", 6)]) (N := ["_law_flow_here", "_law_counts", "_law_some_here", "_law_done", "_law_turn", "_law_fits", "_law_box"]) (sc := defScope s_law_do) (by decide +kernel)) (fun _ _ _ _ _ => (pg_name (i := 6) sc__law_do.nd rfl (.inl rfl))) (fun _ _ _ _ _ => (pts_one (PW.pt (pw_and (pt_cmpR op_lt (pe_ix (ix_seqK (K := K) rfl) (pv 3) (pv 6) (fun _ _ => rfl)) (pe_ix (ix_seqK (K := K) rfl) (pv 1) (pv 6) (fun _ _ => rfl)) (nomark _)) (pw_and1 (pt_val (pe_c c__law_can hr (by decide) (by rfl) (pa_cons (pv 0) (pa_cons (pv 2) (pa_cons (pv 6) pa_nil)))))))))) (fun _ _ _ _ _ => (pv 6)))
      (pss_cons (ps_if (pt_cmpR (op_eqD (hu64 hr)) (pv 5) (pe_lst pa_nil) (nomark _)) (pss_one (ps_ret (pe_tup (pa_cons (pv 3) (pa_cons (pv 2) pa_nil))))) pss_nil)
      (pss_cons (ps_set (i := 2) sc__law_do.nd rfl (.inr rfl) (pe_c c__law_next hr (by decide) (by rfl) (pa_cons (pv 0) (pa_cons (pv 2) (pa_cons (pe_ix ix_seq (pv 5) (pe_un un_neg pe_int) (fun _ _ => rfl)) pa_nil)))))
      (pss_one (ps_asg (pe_op op_add (pe_ix ix_seq (pv 3) (pe_ix ix_seq (pv 5) (pe_un un_neg pe_int) (fun _ _ => rfl)) (fun _ _ => rfl)) pe_int) (pg_sub (pv 3) (pe_ix ix_seq (pv 5) (pe_un un_neg pe_int) (fun _ _ => rfl)) (set_list))))))))
      (pss_one (ps_ret (pe_tup (pa_cons (pv 3) (pa_cons (pv 2) pa_nil))))))), fun F0 x hx => ?_⟩
  obtain ⟨f, r⟩ := x
  obtain ⟨h1, h2, h3, h4⟩ := hx
  simp only at h1 h2 h3 h4
  show Wp _ _ ([.im (flowD f), .im (.list (natsD r))] ++ List.replicate _ .un) _
  refine wp_seq (wp_asgT (esp_cons (evs_im (ev_callA f (ea_cons (ev_var rfl) ea_nil) rfl (by omega))) (fun _ _ => esp_cons (evs_rep (ev_lst (ea_cons ev_int ea_nil)) (ev_op (ev_var rfl) ev_int (opd_ixT rfl)) (by omega) (by simp; omega)) (fun _ _ => esp_nil) (P := fun ss => ss = [.ml (natsD (cnt f.n []))]) (fun _ _ e1 e2 => by rw [e1, e2, zeros]))
    (P := fun ss => ss = [.im (marksD (marks f)), .ml (natsD (cnt f.n []))]) (fun s ss ⟨d, e1, e2⟩ e3 => by rw [e1, e2, e3])) fun ss e => ?_)
  subst e
  refine ⟨rfl, (by show 2 ≤ 100000; decide), bts_name (bts_name (bts_nil ?_))⟩
  refine wp_seq (wp_forR1 (n := ((r.sum : Nat) : Int) + 1) (Pn := fun _ => True) (fun i Γ => ∃ w m s4 s5 s6, Γ = [.im (flowD f), .im (.list (natsD r)), .im (marksD m), .ml (natsD (cnt f.n w)), s4, s5, s6] ∧ Under f r w m ∧ gap f.n r w + i ≤ r.sum)
    (ea_cons (ev_op (ev_cb (ea_cons (ev_var rfl) ea_nil) cd_sumN) ev_int opd_add) ea_nil) (by omega) ⟨[], marks f, _, _, _, rfl, ⟨.nil, fun v _ => Nat.zero_le _⟩, by rw [gap_nil h3]; omega⟩ (fun i Γ' hi ⟨w, m, s4, s5, s6, e, un, hg⟩ => ?_) (fun Γ' ⟨w, m, s4, s5, s6, e, un, hg⟩ => ?_))
  · subst e
    have ml := un.run.len
    refine tg_name (wp_seq (wp_set (d := .list ((fits f r w m).map fun v => .int (v : Nat))) ?_ ?_))
    · refine ev_lcRm (n := f.n) _ (fun v => .int (v : Nat)) (ea_cons (ev_op (ev_var rfl) ev_int (opd_ixT rfl)) ea_nil) (by omega) fun v hv => ⟨_, bn_name (by simp), ?_, fun _ => ev_var rfl⟩
      refine etp_mono (P := fun b => (b = true ↔ (w.count v < rv r v ∧ can f m v))) (etp_and (et_test (ev_op (ev_ixM rfl (ev_var rfl) (at_map (cnt_get hv))) (ev_ixLm (ev_var rfl) (ev_var rfl) (rv_get (by omega))) opd_lt)) (fun e => ?_) (fun e => ?_)) fun b hb => ?_
      · have lt : w.count v < rv r v := by have := of_decide_eq_true e.symm; omega
        refine etp_B (ev_callA (f, m, v) (ea_cons (ev_var rfl) (ea_cons (ev_var rfl) (ea_cons (ev_var rfl) ea_nil))) rfl ⟨ml, h2⟩) fun d ⟨b, e, hb⟩ => ⟨b, e, ?_⟩
        rw [hb]
        exact ⟨fun z => ⟨lt, z⟩, fun z => z.2⟩
      · have nlt : ¬ w.count v < rv r v := by have := of_decide_eq_false e.symm; omega
        exact ⟨fun z => (nomatch z), fun z => absurd z.1 nlt⟩
      · cases b with
        | true => exact (decide_eq_true (hb.mp rfl)).symm
        | false => exact (decide_eq_false fun z => by have := hb.mpr z; cases this).symm
    have fl := fun v => fits_mem (f := f) (r := r) (w := w) (m := m) (v := v)
    have len : (fits f r w m).length ≤ 100 := Nat.le_trans (List.length_filter_le ..) (by rw [List.length_range]; exact h1)
    generalize fits f r w m = l at fl len
    refine wp_seq (wp_ifD (et_test (ev_eq (ev_op (ev_var rfl) (ev_lst ea_nil) (opd_eq (pl_nats l) (pl_nats []) (by decide) (by decide))) (congrArg PyData.bool (eqv_nats l [])))) (fun e => ?_) (fun e => wp_next ?_))
    · have e := of_decide_eq_true e
      subst e
      refine wp_freeze (i := 3) rfl rfl (wp_retD (ev_tup (ea_cons (ev_var rfl) (ea_cons (ev_var rfl) ea_nil))) ⟨w, m, ⟨un, fun v hv lt hc => ?_⟩, rfl⟩)
      have := (fl v).mpr ⟨hv, lt, hc⟩
      cases this
    · have e := of_decide_eq_false e
      obtain ⟨l0, v, rfl⟩ : ∃ l0 v, l = l0 ++ [v] := ⟨l.dropLast, l.getLast e, (List.dropLast_concat_getLast e).symm⟩
      obtain ⟨hv, lt, hc⟩ := (fl v).mp (List.mem_append_right l0 List.mem_cons_self)
      have ev : ∀ {B : Bs} {Γ : List Sk}, Γ[5]? = some (.im (.list ((l0 ++ [v]).map fun v => .int (v : Nat)))) → Ev B (tOp (rIx K) (tVar 5) (tUn (rU fun i => .int (-i)) (tC (.int 1)))) Γ (.int (v : Nat)) := fun h => ev_op (ev_var h) (ev_neg ev_int) (opd_ixL atI_last1)
      refine wp_seq (wp_setP (ev_callA (f, m, v) (ea_cons (ev_var rfl) (ea_cons (ev_var rfl) (ea_cons (ev rfl) ea_nil))) rfl ⟨⟨ml, h2⟩, hc⟩) fun d e => ?_)
      subst e
      refine wp_asgG (ev_op (ev_ixM rfl (ev rfl) (at_map (cnt_get hv))) ev_int opd_add) fun d e => ?_
      subst e
      refine tg_sub (s' := .ml (natsD (cnt f.n (w ++ [v])))) rfl rfl rfl (ev rfl) ?_ ?_
      · have e2 : (natsD (cnt f.n w)).set v (.int ((w.count v : Nat) + 1)) = natsD (cnt f.n (w ++ [v])) := by
          rw [← cnt_snoc hv, ← natsD_set]
          rfl
        rw [← e2]
        exact sd_ml (ixN_n (by rw [List.length_map, cnt_len]; exact hv))
      · have gl := gap_lt hv lt
        exact ⟨w ++ [v], fire f m v, _, _, _, rfl, un.snoc hv lt hc, by omega⟩
  · subst e
    omega
theorem sc__law_with : FnScope ["_law_flow_here", "_law_some_here", "_law_k"] ["_law_flow_here", "_law_some_here"] (defScope s_law_with) := ⟨rfl, rfl, rfl, by decide +kernel, rfl, by decide +kernel, by decide +kernel⟩
abbrev spWith : Sp := spA (fun x : Flow × List Nat => [flowD x.1, marksD x.2]) (fun x => x.2.length = x.1.ps.length ∧ x.1.ps.length ≤ 100) (fun x r => r = flowD (withStart x.1 x.2))
theorem ok__law_with (T : Tx mg) (F : Df K mg "_law_with" s_law_with) : Cal P w K mg base 1 "_law_with" spWith [] := by
  refine calA _ _ _ F sc__law_with rfl (by decide) (fun _ => rfl) (fun _ _ _ _ _ _ us hl => match us, hl with | [_, _], _ => rfl) fun f cdv A outer s H E hr => ⟨_,
    (pss_one (ps_ret (pe_tup (pa_cons (pe_ix ix_seq (pv 0) pe_int (fun _ _ => rfl)) (pa_cons (pe_callTy call_tuple_of (by rfl) T.m_tuple (by decide +kernel) (pa_cons (pe_lc (own := [("_law_k", 2)]) (g := (gName 2)) (tt := tYes) rfl sc__law_with.nd (pi_range1 (by rfl) T.m_range (pa_cons (pe_callB call_len_seq (by rfl) T.m_len PySem.boot_len (pa_cons (pe_ix ix_seq (pv 0) pe_int (fun _ _ => rfl)) pa_nil)) pa_nil)) (blkOk_by (own := [("_law_k", 2)]) (N := ["_law_flow_here", "_law_some_here", "_law_k"]) (sc := defScope s_law_with) (by decide +kernel)) (fun _ _ _ _ _ => (pg_name (i := 2) sc__law_with.nd rfl (.inl rfl))) (fun _ _ _ _ _ => pts_nil) (fun _ _ _ _ _ => (pe_op (op_catAK (K := K) rfl) (pe_slice (sl_tupAK (K := K) rfl) (pe_ix (ix_seqK (K := K) rfl) (pe_ix (ix_seqK (K := K) rfl) (pv 0) pe_int (fun _ _ => rfl)) (pv 2) (fun _ _ => rfl)) po_none (po_some pe_int)) (pe_tup (pa_cons (pe_ix (ix_seqK (K := K) rfl) (pv 1) (pv 2) (fun _ _ => rfl)) pa_nil))))) pa_nil)) pa_nil))))), fun F0 x hx => ?_⟩
  obtain ⟨f, m⟩ := x
  obtain ⟨h1, h2⟩ := hx
  simp only at h1 h2
  show Wp _ _ ([.im (flowD f), .im (marksD m)] ++ List.replicate _ .un) _
  refine wp_retD (ev_tup (ea_cons (ev_op (ev_var rfl) ev_int (opd_ixT rfl)) (ea_cons (ev_cb (ea_cons (ev_lcRy (n := f.ps.length) (fun k => match f.ps[k]?, m[k]? with | some p, some y => pipeD { p with start := y } | _, _ => .none)
    (ea_cons (ev_cb (ea_cons (ev_op (ev_var rfl) ev_int (opd_ixT rfl)) ea_nil) (by have := cd_lenT (K := K) (ds := f.ps.map pipeD); rw [List.length_map] at this; exact this)) ea_nil) (by omega) fun k hk => ?_) ea_nil) cd_tuple) ea_nil))) ?_
  · obtain ⟨p, hp⟩ : ∃ p, f.ps[k]? = some p := ⟨_, List.getElem?_eq_getElem hk⟩
    obtain ⟨y, hy⟩ : ∃ y, m[k]? = some y := ⟨_, List.getElem?_eq_getElem (by omega)⟩
    rw [hp, hy]
    refine ⟨_, bn_name (by simp), ?_⟩
    have e1 : ∀ {B : Bs}, Ev B (tOp (rIx K) (tOp (rIx K) (tVar 0) (tC (.int 1))) (tVar 2)) [.im (flowD f), .im (marksD m), .im (.int (k : Nat))] (pipeD p) := ev_ixTm (ev_op (ev_var rfl) ev_int (opd_ixT rfl)) (ev_var rfl) hp
    have e2 : ∀ {B : Bs}, Ev B (tSl (rSlA K) (tOp (rIx K) (tOp (rIx K) (tVar 0) (tC (.int 1))) (tVar 2)) tNoPart (tPart (tC (.int 4)))) [.im (flowD f), .im (marksD m), .im (.int (k : Nat))] (.tuple [.int (p.one : Nat), .int (p.other : Nat), .int (p.give : Nat), .int (p.eat : Nat)]) := ev_sliceT e1 eo_no (eo_part ev_int)
    exact ev_op e2 (ev_tup (ea_cons (ev_ixTm (ev_var rfl) (ev_var rfl) hy) ea_nil)) (opd_catT (Nat.le_of_ble_eq_true rfl))
  · show PyData.tuple [_, .tuple _] = PyData.tuple [_, .tuple ((List.zipWith (fun (p : Pipe) (x : Nat) => ({ p with start := x } : Pipe)) f.ps m).map pipeD)]
    refine congrArg (fun z => PyData.tuple [.int (f.n : Nat), .tuple z]) (List.ext_getElem? fun i => ?_)
    by_cases hi : i < f.ps.length
    · obtain ⟨p, hp⟩ : ∃ p, f.ps[i]? = some p := ⟨_, List.getElem?_eq_getElem hi⟩
      obtain ⟨y, hy⟩ : ∃ y, m[i]? = some y := ⟨_, List.getElem?_eq_getElem (by omega)⟩
      rw [List.getElem?_map, List.getElem?_range hi, List.getElem?_map, List.getElem?_zipWith, hp, hy]
      simp only [Option.map_some, hp, hy]
    · rw [List.getElem?_eq_none (by simp; omega), List.getElem?_eq_none (by simp; omega)]
end
end Dl
set_option Elab.async false
set_option linter.all false
set_option maxRecDepth 100000
set_option maxHeartbeats 1000000
/-! Walks 6: components. -/
namespace Dl
open PySem PySem.Spec PyProof.Rows L2 C8 Rf
/-! ### lists of numbers -/
theorem nodup_sub : ∀ {l D : List Nat}, l.Nodup → (∀ x ∈ l, x ∈ D) → l.length ≤ D.length
  | [], _, _, _ => Nat.zero_le _
  | a :: l, D, hn, h => by
    obtain ⟨h1, h2⟩ := List.nodup_cons.mp hn
    have ha := h a List.mem_cons_self
    have ih := nodup_sub (l := l) (D := D.erase a) h2 fun x hx => (List.mem_erase_of_ne (fun e => h1 (by rw [← e]; exact hx))).mpr (h x (List.mem_cons_of_mem _ hx))
    rw [List.length_erase_of_mem ha] at ih
    have := List.length_pos_of_mem ha
    show l.length + 1 ≤ _
    omega
theorem sorted_ext : ∀ {l l' : List Nat}, l.Pairwise (· < ·) → l'.Pairwise (· < ·) → (∀ x, x ∈ l ↔ x ∈ l') → l = l'
  | [], [], _, _, _ => rfl
  | [], b :: l', _, _, h => by have := (h b).mpr List.mem_cons_self; cases this
  | a :: l, [], _, _, h => by have := (h a).mp List.mem_cons_self; cases this
  | a :: l, b :: l', h1, h2, h => by
    obtain ⟨p1, p2⟩ := List.pairwise_cons.mp h1
    obtain ⟨q1, q2⟩ := List.pairwise_cons.mp h2
    have e : a = b := by
      rcases List.mem_cons.mp ((h a).mp List.mem_cons_self) with z | z
      · exact z
      · rcases List.mem_cons.mp ((h b).mpr List.mem_cons_self) with y | y
        · exact y.symm
        · have := q1 a z
          have := p1 b y
          omega
    subst e
    rw [sorted_ext p2 q2 fun x => ⟨fun hx => ?_, fun hx => ?_⟩]
    · rcases List.mem_cons.mp ((h x).mp (List.mem_cons_of_mem _ hx)) with z | z
      · have := p1 x hx
        omega
      · exact z
    · rcases List.mem_cons.mp ((h x).mpr (List.mem_cons_of_mem _ hx)) with z | z
      · have := q1 x hx
        omega
      · exact z
theorem any_nats (l : List Nat) (v : Nat) : ((natsD l).any fun z => PyData.eqv z (.int (v : Nat))) = decide (v ∈ l) := by
  induction l with
  | nil => rfl
  | cons a l ih =>
    show (PyData.eqv (.int (a : Nat)) (.int (v : Nat)) || (natsD l).any _) = _
    rw [ih, eqv_int, natEq]
    by_cases h : v = a
    · simp [h]
    · have : ¬ a = v := fun e => h e.symm
      simp [h, this]
theorem natsD_app (l : List Nat) (v : Nat) : natsD l ++ [.int (v : Nat)] = natsD (l ++ [v]) := by
  unfold natsD
  rw [List.map_append]
  rfl
theorem set_ml2 {Γ Γ' : List Sk} {i j : Nat} {a b c d : List PyData} (h : a = b) (h' : c = d) (e : (Γ.set i (.ml b)).set j (.ml d) = Γ') : (Γ.set i (.ml a)).set j (.ml c) = Γ' := h ▸ h' ▸ e
/-! ### components -/
def nearL (f : Flow) (u : Nat) : List Nat := ((f.ps.filter fun p => decide (p.one = u)).map (·.other)) ++ ((f.ps.filter fun p => decide (p.other = u)).map (·.one))
theorem near_mem {f : Flow} {u v : Nat} : v ∈ nearL f u ↔ ∃ p ∈ f.ps, (p.one = u ∧ p.other = v) ∨ (p.one = v ∧ p.other = u) := by
  unfold nearL
  rw [List.mem_append, List.mem_map, List.mem_map]
  constructor
  · rintro (⟨p, hp, e⟩ | ⟨p, hp, e⟩)
    · rw [List.mem_filter, decide_eq_true_eq] at hp
      exact ⟨p, hp.1, .inl ⟨hp.2, e⟩⟩
    · rw [List.mem_filter, decide_eq_true_eq] at hp
      exact ⟨p, hp.1, .inr ⟨e, hp.2⟩⟩
  · rintro ⟨p, hp, ⟨a, b⟩ | ⟨a, b⟩⟩
    · exact .inl ⟨p, List.mem_filter.mpr ⟨hp, decide_eq_true a⟩, b⟩
    · exact .inr ⟨p, List.mem_filter.mpr ⟨hp, decide_eq_true b⟩, a⟩
theorem near_symm {f : Flow} {u v : Nat} (h : v ∈ nearL f u) : u ∈ nearL f v := by
  obtain ⟨p, hp, ⟨a, b⟩ | ⟨a, b⟩⟩ := near_mem.mp h
  · exact near_mem.mpr ⟨p, hp, .inr ⟨a, b⟩⟩
  · exact near_mem.mpr ⟨p, hp, .inl ⟨a, b⟩⟩
def Ends (f : Flow) : Prop := ∀ p ∈ f.ps, p.one < f.n ∧ p.other < f.n
theorem near_lt {f : Flow} (ok : Ends f) {u v : Nat} (h : v ∈ nearL f u) : v < f.n := by
  obtain ⟨p, hp, ⟨a, b⟩ | ⟨a, b⟩⟩ := near_mem.mp h
  · rw [← b]; exact (ok p hp).2
  · rw [← a]; exact (ok p hp).1
theorem near_len {f : Flow} (u : Nat) : (nearL f u).length ≤ 2 * f.ps.length := by
  unfold nearL
  rw [List.length_append, List.length_map, List.length_map]
  have h1 := List.length_filter_le (fun p : Pipe => decide (p.one = u)) f.ps
  have h2 := List.length_filter_le (fun p : Pipe => decide (p.other = u)) f.ps
  omega
inductive Conn (f : Flow) (u : Nat) : Nat → Prop
  | refl : Conn f u u
  | step {v w : Nat} : Conn f u v → w ∈ nearL f v → Conn f u w
theorem Conn.trans {f : Flow} {u v w : Nat} (a : Conn f u v) (b : Conn f v w) : Conn f u w := by
  induction b with
  | refl => exact a
  | step _ h ih => exact .step ih h
theorem Conn.symm {f : Flow} {u v : Nat} (a : Conn f u v) : Conn f v u := by
  induction a with
  | refl => exact .refl
  | step _ h ih => exact (Conn.step .refl (near_symm h)).trans ih
theorem Conn.lt {f : Flow} (ok : Ends f) {u v : Nat} (hu : u < f.n) (a : Conn f u v) : v < f.n := by
  cases a with
  | refl => exact hu
  | step _ h => exact near_lt ok h
def Closed (f : Flow) (S : Nat → Prop) : Prop := ∀ u v, S u → v ∈ nearL f u → S v
theorem Conn.closed {f : Flow} {S : Nat → Prop} (c : Closed f S) {u v : Nat} (hu : S u) (a : Conn f u v) : S v := by
  induction a with
  | refl => exact hu
  | step _ h ih => exact c _ _ ih h
noncomputable instance connDec (f : Flow) (u v : Nat) : Decidable (Conn f u v) := Classical.propDecidable _
noncomputable def comp (f : Flow) (u : Nat) : List Nat := (List.range f.n).filter fun v => decide (Conn f u v)
theorem comp_mem {f : Flow} {u v : Nat} : v ∈ comp f u ↔ v < f.n ∧ Conn f u v := by
  unfold comp
  rw [List.mem_filter, List.mem_range, decide_eq_true_eq]
theorem comp_sorted (f : Flow) (u : Nat) : (comp f u).Pairwise (· < ·) := List.Pairwise.filter _ List.pairwise_lt_range
theorem comp_len (f : Flow) (u : Nat) : (comp f u).length ≤ f.n := Nat.le_trans (List.length_filter_le ..) (by rw [List.length_range]; exact Nat.le_refl _)
theorem comp_eq {f : Flow} {u : Nat} {l : List Nat} (h : l.Pairwise (· < ·)) (hm : ∀ v, v ∈ l ↔ v < f.n ∧ Conn f u v) : l = comp f u := sorted_ext h (comp_sorted f u) fun x => by rw [hm, comp_mem]
theorem comp_same {f : Flow} {u v : Nat} (h : Conn f u v) : comp f u = comp f v := sorted_ext (comp_sorted ..) (comp_sorted ..) fun x => by
  rw [comp_mem, comp_mem]
  exact ⟨fun z => ⟨z.1, h.symm.trans z.2⟩, fun z => ⟨z.1, h.trans z.2⟩⟩
theorem pairwise_lt_of {l : List Nat} (h : l.Pairwise (· ≤ ·)) (hn : l.Nodup) : l.Pairwise (· < ·) := (List.pairwise_and_iff.mpr ⟨h, hn⟩).imp fun ⟨a, b⟩ => by omega
section
variable {P : Program} {w : World} {K : PySem.W.Frag} {mg : PySem.Str → Option Value} {base : Heap}
structure Shape (f : Flow) : Prop where
  n : f.n ≤ 50
  ps : f.ps.length ≤ 100
  ends : Ends f
abbrev spComp : Sp := spA (fun x : Flow × Nat => [flowD x.1, .int (x.2 : Nat), .bool true]) (fun x => Shape x.1 ∧ x.2 < x.1.n) (fun x r => r = .list (natsD (comp x.1 x.2)))
theorem sc_reach_of : FnScope ["flow", "box", "both", "found", "rows", "here", "near", "there", "pipe"] ["flow", "box", "both"] (defScope s_reach_of) := ⟨rfl, rfl, rfl, by decide +kernel, rfl, by decide +kernel, by decide +kernel⟩
/-- the worklist -/
structure Wl (f : Flow) (b : Nat) (found rows : List Nat) (here : Option Nat) : Prop where
  nd : found.Nodup
  mem : ∀ v ∈ found, v < f.n ∧ Conn f b v
  box : b ∈ found
  sub : ∀ v ∈ rows, v ∈ found
  cl : ∀ u ∈ found, u ∉ rows → some u ≠ here → ∀ v ∈ nearL f u, v ∈ found
theorem mem_drop {l : List Nat} (h : l ≠ []) {u : Nat} : u ∈ l ↔ u ∈ l.dropLast ∨ u = l.getLast h := by
  conv => lhs; rw [← List.dropLast_concat_getLast h]
  simp
theorem nats_map (l : List Nat) : natsD l = (l.map fun c : Nat => (c : Int)).map PyData.int := by
  unfold natsD
  rw [List.map_map]
  rfl
theorem ne_nil_nats {K : PySem.W.Frag} {B : Bs} {Γ : List Sk} {te : TE} {l : List Nat} (h : Ev B te Γ (.list (natsD l))) : Et B (tTest (tOp (rNeD K) te (tLst tNil))) Γ (!decide (l = [])) :=
  et_test (ev_eq (ev_op h (ev_lst ea_nil) (opd_ne (pl_nats l) (pl_nats []) (by decide) (by decide))) (congrArg (fun z => PyData.bool (!z)) (eqv_nats l [])))
theorem ok_reach_of (T : Tx mg) (F : Df K mg "reach_of" s_reach_of) : Cal P w K mg base 1 "reach_of" spComp [] := by
  refine calA _ _ _ F sc_reach_of rfl (by decide) (fun _ => rfl) (fun _ _ _ _ _ _ us hl => match us, hl with | [_, _, _], _ => rfl) fun f cdv A outer s H E hr => ⟨_,
    (pss_cons (ps_par (i := 3) (j := 4) (by rfl) sc_reach_of.nd rfl rfl (by decide) rfl rfl (pa_cons (pe_lst (pa_cons (pv 1) pa_nil)) (pa_cons (pe_lst (pa_cons (pv 1) pa_nil)) pa_nil)) (by rfl))
      (pss_cons (ps_while PassesOwn.never (pt_cmpR (op_neD (hu64 hr)) (pv 4) (pe_lst pa_nil) (nomark _)) (pss_cons (ps_set (i := 5) sc_reach_of.nd rfl (.inr rfl) (pe_bm0 PySem.F.plainAttrs_list PySem.F.slot_list_pop PySem.F.type_list_pop mt_pop (pv 4)))
      (pss_cons (ps_setLc (i := 6) (own := [("pipe", 8)]) (g := (gName 8)) rfl sc_reach_of.nd rfl rfl (sw_true rfl rfl rfl (by decide +kernel)) (pi_tup (pe_ix ix_seq (pv 0) pe_int (fun _ _ => rfl))) (blkOk_by (own := [("pipe", 8)]) (N := ["flow", "box", "both", "found", "rows", "here", "near", "there", "pipe"]) (sc := defScope s_reach_of) (by decide +kernel)) (fun _ _ _ _ _ => (pg_name (i := 8) sc_reach_of.nd rfl (.inl rfl))) (fun _ _ _ _ _ => (pts_one (pt_cmpR (op_eqDK (K := K) rfl (hu64 hr)) (pe_ix (ix_seqK (K := K) rfl) (pv 8) pe_int (fun _ _ => rfl)) (pv 5) (nomark _)))) (fun _ _ _ _ _ => (pe_ix (ix_seqK (K := K) rfl) (pv 8) pe_int (fun _ _ => rfl))))
      (pss_cons (ps_set (i := 6) sc_reach_of.nd rfl (.inl rfl) (pe_op op_cat (pv 6) (pe_ifExp (pt_val (pv 2)) (pe_lc (own := [("pipe", 8)]) (g := (gName 8)) rfl sc_reach_of.nd (pi_tup (pe_ix ix_seq (pv 0) pe_int (fun _ _ => rfl))) (blkOk_by (own := [("pipe", 8)]) (N := ["flow", "box", "both", "found", "rows", "here", "near", "there", "pipe"]) (sc := defScope s_reach_of) (by decide +kernel)) (fun _ _ _ _ _ => (pg_name (i := 8) sc_reach_of.nd rfl (.inl rfl))) (fun _ _ _ _ _ => (pts_one (pt_cmpR (op_eqDK (K := K) rfl (hu64 hr)) (pe_ix (ix_seqK (K := K) rfl) (pv 8) pe_int (fun _ _ => rfl)) (pv 5) (nomark _)))) (fun _ _ _ _ _ => (pe_ix (ix_seqK (K := K) rfl) (pv 8) pe_int (fun _ _ => rfl)))) (pe_lst pa_nil))))
      (pss_one (ps_for PassesOwn.never rfl (pi_list (pv 6)) (pg_name (i := 7) sc_reach_of.nd rfl (.inl rfl)) (pss_one (ps_if (pt_cmpR (op_notInD (hu65 hr)) (pv 7) (pv 3) (by rfl)) (pss_cons (ps_expr (pe_bm PySem.F.plainAttrs_list PySem.F.slot_list_append PySem.F.type_list_append mt_append (pv 3) (pa_cons (pv 7) pa_nil)))
      (pss_one (ps_expr (pe_bm PySem.F.plainAttrs_list PySem.F.slot_list_append PySem.F.type_list_append mt_append (pv 4) (pa_cons (pv 7) pa_nil))))) pss_nil))))))))
      (pss_one (ps_ret (pe_callB cr_sorted (by rfl) T.m_sorted (by decide +kernel) (pa_cons (pv 3) pa_nil)))))), fun F0 x hx => ?_⟩
  obtain ⟨f, b⟩ := x
  obtain ⟨⟨h1, h2, ok⟩, hb⟩ := hx
  simp only at h1 h2 ok hb
  show Wp _ _ ([.im (flowD f), .im (.int (b : Nat)), .im (.bool true)] ++ List.replicate _ .un) _
  refine wp_seq (wp_par (esp_cons (evs_lst (ea_cons (ev_var rfl) ea_nil) (fun ds e => by rw [e]; exact Nat.le_of_ble_eq_true rfl)) (fun _ _ => esp_cons (evs_lst (ea_cons (ev_var rfl) ea_nil) (fun ds e => by rw [e]; exact Nat.le_of_ble_eq_true rfl)) (fun _ _ => esp_nil) (P := fun ss => ss = [.ml (natsD [b])]) (fun _ _ ⟨ds, e1, e2⟩ e3 => by rw [e1, e2, e3]; rfl))
    (P := fun ss => ss = [.ml (natsD [b]), .ml (natsD [b])]) (fun s ss ⟨ds, e1, e2⟩ e3 => by rw [e1, e2, e3]; rfl)) fun ss e => ⟨_, _, e, ?_⟩)
  refine wp_seq (wp_while (fun k Γ => ∃ found rows s5 s6 s7 s8, Γ = [.im (flowD f), .im (.int (b : Nat)), .im (.bool true), .ml (natsD found), .ml (natsD rows), s5, s6, s7, s8] ∧ Wl f b found rows none ∧ 2 * (f.n - found.length) + rows.length = k ∧ k ≤ 1000) (2 * (f.n - 1) + 1) ?_ ?_)
  · exact ⟨[b], [b], _, _, _, _, rfl, ⟨by simp, fun v hv => by simp at hv; subst hv; exact ⟨hb, .refl⟩, by simp, fun v hv => hv, fun u hu hn => absurd hu hn⟩, rfl, by omega⟩
  · rintro k Γ' ⟨found, rows, s5, s6, s7, s8, rfl, wl, hk, hr9⟩
    have fl : found.length ≤ f.n := by
      have := nodup_sub (D := List.range f.n) wl.nd fun v hv => List.mem_range.mpr (wl.mem v hv).1
      rwa [List.length_range] at this
    refine ⟨fun z => z = !decide (rows = []), etp_peek rfl (i := 4) rfl rfl (ne_nil_nats (ev_var rfl)), fun e => ?_, fun e => ?_⟩
    · have hr : rows ≠ [] := by simpa using e.symm
      have lr : 0 < rows.length := List.length_pos_iff.mpr hr
      have hg : rows[rows.length - 1]? = some (rows.getLast hr) := by rw [← List.getLast?_eq_getElem?, List.getLast?_eq_getLast hr]
      refine wp_seq (wp_pop (i := 4) (j := 5) (d := .int ((rows.getLast hr : Nat) : Nat)) rfl (by rw [List.length_map, List.getElem?_map, hg]; rfl) (by decide) ?_)
      have hmem : rows.getLast hr ∈ found := wl.sub _ (List.getLast_mem hr)
      have hcl : ∀ u ∈ found, u ∉ rows.dropLast → u ≠ rows.getLast hr → ∀ v ∈ nearL f u, v ∈ found := fun u hu h1 h2 => wl.cl u hu (fun z => (mem_drop hr).mp z |>.elim h1 h2) (by simp)
      have hsub : ∀ v ∈ rows.dropLast, v ∈ found := fun v hv => wl.sub v ((mem_drop hr).mpr (.inl hv))
      have hdl : rows.dropLast.length = rows.length - 1 := List.length_dropLast
      have edl : (natsD rows).dropLast = natsD rows.dropLast := by unfold natsD; rw [List.map_dropLast]
      rw [edl]
      generalize rows.getLast hr = here at hmem hcl
      generalize rows.dropLast = rows' at hsub hcl hdl
      refine wp_seq (wp_set (ev_lcTm (fun p => decide (p.one = here)) (fun p => .int (p.other : Nat)) pipeD_inj (ev_op (ev_var rfl) ev_int (opd_ixT rfl)) (by omega) fun p _ => ⟨_, bn_name (by simp), et_eq (et_eqI (ev_op (ev_var rfl) ev_int (opd_ixT rfl)) (ev_var rfl)) natEq, fun _ => ev_op (ev_var rfl) ev_int (opd_ixT rfl)⟩) ?_)
      refine wp_seq (wp_set (d := .list (natsD (nearL f here))) (ev_eq (ev_op (ev_var rfl) (ev_eq (ev_if (et_B (ev_var rfl)) (fun _ => ev_lcTm (fun p => decide (p.other = here)) (fun p => .int (p.one : Nat)) pipeD_inj (ev_op (ev_var rfl) ev_int (opd_ixT rfl)) (by omega) fun p _ => ⟨_, bn_name (by simp), et_eq (et_eqI (ev_op (ev_var rfl) ev_int (opd_ixT rfl)) (ev_var rfl)) natEq, fun _ => ev_op (ev_var rfl) ev_int (opd_ixT rfl)⟩) (fun _ => ev_lst ea_nil)) (if_pos rfl)) (opd_cat ?_)) ?_) ?_)
      · have h1 := List.length_filter_le (fun p : Pipe => decide (p.one = here)) f.ps
        have h2 := List.length_filter_le (fun p : Pipe => decide (p.other = here)) f.ps
        simp only [List.length_map]
        omega
      · show PyData.list _ = PyData.list _
        unfold nearL natsD
        rw [List.map_append, List.map_map, List.map_map]
        rfl
      have nl := near_len (f := f) here
      refine wp_forL (Pl := fun _ => True) (fun i Γ => ∃ found' rows'' s7 s8, Γ = [.im (flowD f), .im (.int (b : Nat)), .im (.bool true), .ml (natsD found'), .ml (natsD rows''), .im (.int (here : Nat)), .im (.list (natsD (nearL f here))), s7, s8] ∧ Wl f b found' rows'' (some here) ∧ here ∈ found' ∧ (∀ v ∈ (nearL f here).take i, v ∈ found') ∧ 2 * (f.n - found'.length) + rows''.length < k ∧ rows''.length ≤ rows'.length + i ∧ found'.length ≤ f.n) (ev_var rfl)
        ⟨found, rows', _, _, rfl, ⟨wl.nd, wl.mem, wl.box, hsub, fun u hu a b => hcl u hu a (fun z => b (by rw [z]))⟩, hmem, by simp, by omega, by omega, fl⟩ (fun i d Γ' hd ⟨fo, ro, s7, s8, e, wl2, hm2, ht, hm, hrl, fl2⟩ => ?_) (fun Γ' ⟨fo, ro, s7, s8, e, wl2, hm2, ht, hm, hrl, fl2⟩ => ?_)
      · subst e
        obtain ⟨v, hv, rfl⟩ := map_get hd
        have vn : v ∈ nearL f here := List.mem_of_getElem? hv
        have il : i < (nearL f here).length := (List.getElem?_eq_some_iff.mp hv).1
        have tk : ∀ x, x ∈ (nearL f here).take (i + 1) → x ∈ (nearL f here).take i ∨ x = v := fun x hx => by
          rw [List.take_add_one, hv] at hx
          simpa using hx
        refine tg_name (wp_if (etp_peek rfl (i := 3) rfl rfl (et_eq (et_test (ev_op (ev_var rfl) (ev_var rfl) (opd_notIn (n := 0) rfl (pl_nats fo) (by decide) (by decide)))) (by rw [any_nats]))) (fun e => ?_) (fun e => wp_next ?_))
        · have nv : v ∉ fo := by simpa using e.symm
          have nd2 : (fo ++ [v]).Nodup := List.nodup_append.mpr ⟨wl2.nd, by simp, fun a ha c hc z => nv (by simp at hc; rw [← hc, ← z]; exact ha)⟩
          have mem2 : ∀ x ∈ fo ++ [v], x < f.n ∧ Conn f b x := fun x hx => by
            rcases List.mem_append.mp hx with z | z
            · exact wl2.mem x z
            · simp at z
              subst z
              exact ⟨near_lt ok vn, .step (wl2.mem here hm2).2 vn⟩
          have l2 : (fo ++ [v]).length ≤ f.n := by
            have := nodup_sub (D := List.range f.n) nd2 fun x hx => List.mem_range.mpr (mem2 x hx).1
            rwa [List.length_range] at this
          have l3 : fo.length + 1 ≤ f.n := by simpa using l2
          refine wp_seq (wp_append rfl (ev_var rfl) (by rw [List.length_map]; omega) fun d e => ?_)
          subst e
          refine wp_append rfl (ev_var rfl) (by rw [List.length_map]; omega) fun d e => ?_
          subst e
          refine ⟨fo ++ [v], ro ++ [v], _, _, set_ml2 (natsD_app fo v) (natsD_app ro v) rfl, ⟨nd2, mem2, List.mem_append_left _ wl2.box, fun x hx => ?_, fun u hu h1 h2 x hx => ?_⟩, List.mem_append_left _ hm2, fun x hx => ?_, ?_, ?_, l2⟩
          · rcases List.mem_append.mp hx with z | z
            · exact List.mem_append_left _ (wl2.sub x z)
            · exact List.mem_append_right _ z
          · rcases List.mem_append.mp hu with z | z
            · exact List.mem_append_left _ (wl2.cl u z (fun y => h1 (List.mem_append_left _ y)) h2 x hx)
            · exact absurd (List.mem_append_right _ z) h1
          · rcases tk x hx with z | z
            · exact List.mem_append_left _ (ht x z)
            · rw [z]; simp
          · simp only [List.length_append, List.length_singleton]
            omega
          · simp only [List.length_append, List.length_singleton]
            omega
        · have nv : v ∈ fo := by simpa using e.symm
          refine ⟨fo, ro, _, _, rfl, wl2, hm2, fun x hx => ?_, hm, by omega, fl2⟩
          rcases tk x hx with z | z
          · exact ht x z
          · rw [z]; exact nv
      · subst e
        refine ⟨_, hm, fo, ro, _, _, _, _, rfl, ⟨wl2.nd, wl2.mem, wl2.box, wl2.sub, fun u hu h1 _ x hx => ?_⟩, rfl, ?_⟩
        · by_cases z : u = here
          · subst z
            exact ht x (by rw [List.length_map, List.take_length]; exact hx)
          · exact wl2.cl u hu h1 (fun y => z (Option.some.inj y)) x hx
        · omega
    · have hr : rows = [] := by simpa using e.symm
      subst hr
      refine wp_freeze (i := 3) rfl rfl (wp_ret (ev_cb (ea_cons (ev_var (d := .list ((found.map fun c : Nat => (c : Int)).map PyData.int)) (by rw [← nats_map]; rfl)) ea_nil) (cd_sorted (by rw [List.length_map]; omega))) fun d ⟨ms, e, pm, srt⟩ => ?_)
      subst e
      have pos : ∀ x ∈ ms, 0 ≤ x := fun x hx => by
        obtain ⟨c, _, e⟩ := List.mem_map.mp (pm.mem_iff.mp hx)
        omega
      obtain ⟨l, rfl⟩ : ∃ l : List Nat, ms = l.map fun c : Nat => (c : Int) := by
        refine ⟨ms.map Int.toNat, ?_⟩
        rw [List.map_map]
        conv => lhs; rw [← List.map_id ms]
        exact List.map_congr_left fun x hx => (Int.toNat_of_nonneg (pos x hx)).symm
      have pl : l.Perm found := by
        have h := pm.map Int.toNat
        simpa [List.map_map, Function.comp_def] using h
      have sl : l.Pairwise (· ≤ ·) := by
        rw [List.pairwise_map] at srt
        exact srt.imp fun h => by omega
      have : l = comp f b := comp_eq (pairwise_lt_of sl (pl.nodup_iff.mpr wl.nd)) fun v => by
        rw [pl.mem_iff]
        refine ⟨fun h => wl.mem v h, fun h => ?_⟩
        exact h.2.closed (S := fun v => v ∈ found) (fun u v hu hv => wl.cl u hu (by simp) (by simp) v hv) wl.box
      show PyData.list _ = PyData.list _
      rw [← nats_map, this]
end
end Dl
set_option Elab.async false
set_option linter.all false
set_option maxRecDepth 100000
set_option maxHeartbeats 1000000
/-! Walks 7: parts; the law's components. -/
namespace Dl
open PySem PySem.Spec PyProof.Rows L2 C8 Rf
def isHead (f : Flow) (b : Nat) : Prop := (comp f b).head? = some b
noncomputable instance headDec (f : Flow) (b : Nat) : Decidable (isHead f b) := Classical.propDecidable _
noncomputable def heads (f : Flow) (i : Nat) : List Nat := (List.range i).filter fun b => decide (isHead f b)
theorem heads_succ (f : Flow) (i : Nat) : heads f (i + 1) = heads f i ++ if isHead f i then [i] else [] := by
  unfold heads
  rw [List.range_succ, List.filter_append]
  congr 1
  by_cases h : isHead f i <;> simp [h]
theorem comp_ne {f : Flow} {b : Nat} (h : b < f.n) : comp f b ≠ [] := fun z => by
  have : b ∈ comp f b := comp_mem.mpr ⟨h, .refl⟩
  rw [z] at this
  cases this
section
variable {P : Program} {w : World} {K : PySem.W.Frag} {mg : PySem.Str → Option Value} {base : Heap}
noncomputable abbrev partsD (f : Flow) (l : List Nat) : List PyData := l.map fun b => .tuple (natsD (comp f b))
theorem sc_parts_in : FnScope ["flow", "found", "box", "part"] ["flow"] (defScope s_parts_in) := ⟨rfl, rfl, rfl, by decide +kernel, rfl, by decide +kernel, by decide +kernel⟩
noncomputable abbrev spParts : Sp := spA eF Shape (fun f r => r = .list (partsD f (heads f f.n)))
theorem ok_parts_in (T : Tx mg) (F : Df K mg "parts_in" s_parts_in) (c_reach_of : Cal P w K mg base 1 "reach_of" spComp []) : Cal P w K mg base 2 "parts_in" spParts [] := by
  refine calA _ _ _ F sc_parts_in rfl (by decide) (fun _ => rfl) (fun _ _ _ _ _ _ us hl => match us, hl with | [_], _ => rfl) fun f cdv A outer s H E hr => ⟨_,
    (pss_cons (ps_set (i := 1) sc_parts_in.nd rfl (.inl rfl) (pe_lst pa_nil))
      (pss_cons (ps_for PassesOwn.never rfl (pi_range1 (by rfl) T.m_range (pa_cons (pe_ix ix_seq (pv 0) pe_int (fun _ _ => rfl)) pa_nil)) (pg_name (i := 2) sc_parts_in.nd rfl (.inl rfl)) (pss_cons (ps_set (i := 3) sc_parts_in.nd rfl (.inl rfl) (pe_c c_reach_of hr (by decide) (by rfl) (pa_cons (pv 0) (pa_cons (pv 2) (pa_cons pe_bl pa_nil)))))
      (pss_one (ps_if (pt_cmpR (op_eqD (hu64 hr)) (pe_ix ix_seq (pv 3) pe_int (fun _ _ => rfl)) (pv 2) (nomark _)) (pss_one (ps_expr (pe_bm PySem.F.plainAttrs_list PySem.F.slot_list_append PySem.F.type_list_append mt_append (pv 1) (pa_cons (pe_callTy call_tuple_of (by rfl) T.m_tuple (by decide +kernel) (pa_cons (pv 3) pa_nil)) pa_nil)))) pss_nil))))
      (pss_one (ps_ret (pv 1))))), fun F0 x hx => ?_⟩
  have hx' := hx
  obtain ⟨h1, h2, ok⟩ := hx'
  refine wp_seq (wp_setS evs_nil ?_)
  refine wp_seq (wp_forR1 (n := (x.n : Nat)) (Pn := fun _ => True) (fun i Γ => ∃ s2 s3, Γ = [.im (flowD x), .ml (partsD x (heads x i)), s2, s3]) (ea_cons (ev_op (ev_var rfl) ev_int (opd_ixT rfl)) ea_nil) (by omega) ⟨_, _, rfl⟩ (fun i Γ' hi ⟨s2, s3, e⟩ => ?_) (fun Γ' ⟨s2, s3, e⟩ => ?_))
  · subst e
    have hi : i < x.n := by omega
    have ne := comp_ne (f := x) hi
    obtain ⟨b, l, hbl⟩ : ∃ b l, comp x i = b :: l := List.exists_cons_of_ne_nil ne
    have cl := comp_len x i
    have hh : isHead x i ↔ b = i := by unfold isHead; rw [hbl]; simp
    have hs := heads_succ x i
    have hln : (heads x i).length ≤ i := Nat.le_trans (List.length_filter_le ..) (by rw [List.length_range]; exact Nat.le_refl _)
    refine tg_name (wp_seq (wp_setP (ev_callA (x, i) (ea_cons (ev_var rfl) (ea_cons (ev_var rfl) (ea_cons ev_bl ea_nil))) rfl ⟨hx, hi⟩) fun d e => ?_))
    subst e
    refine wp_ifD (et_eq (et_eqI (i := (b : Nat)) (ev_op (ev_var rfl) ev_int (opd_ixL (by show atI (natsD (comp x i)) 0 = _; rw [hbl]; exact at_map (i := 0) (x := b) rfl))) (ev_var rfl)) natEq) (fun e => ?_) (fun e => wp_next ?_)
    · have e := of_decide_eq_true e
      refine wp_append rfl (ev_cb (ea_cons (ev_var rfl) ea_nil) cd_tuple) (by rw [List.length_map]; omega) fun d e => ?_
      subst e
      refine ⟨_, _, set_ml (b := partsD x (heads x (i + 1))) ?_ rfl⟩
      rw [hs, if_pos (hh.mpr e)]
      unfold partsD
      rw [List.map_append]
      rfl
    · have e := of_decide_eq_false e
      rw [if_neg (fun z => e (hh.mp z)), List.append_nil] at hs
      exact ⟨_, _, by rw [hs]; rfl⟩
  · subst e
    exact wp_freeze (i := 1) rfl rfl (wp_retD (ev_var rfl) (by show PyData.list _ = _; rw [Int.toNat_natCast]))
theorem sc__law_joined : FnScope ["_law_flow_here", "_law_box", "_law_both", "_law_found", "_law_turn", "_law_more", "_law_pipe", "_law_k"] ["_law_flow_here", "_law_box", "_law_both"] (defScope s_law_joined) := ⟨rfl, rfl, rfl, by decide +kernel, rfl, by decide +kernel, by decide +kernel⟩
structure Jn (f : Flow) (b i : Nat) (l : List Nat) : Prop where
  nd : l.Nodup
  mem : ∀ v ∈ l, v < f.n ∧ Conn f b v
  box : b ∈ l
  flt : 0 < i → l.Pairwise (· < ·)
  big : Closed f (fun v => v ∈ l) ∨ i + 1 ≤ l.length
theorem ok__law_joined (T : Tx mg) (F : Df K mg "_law_joined" s_law_joined) : Cal P w K mg base 1 "_law_joined" spComp [] := by
  refine calA _ _ _ F sc__law_joined rfl (by decide) (fun _ => rfl) (fun _ _ _ _ _ _ us hl => match us, hl with | [_, _, _], _ => rfl) fun f cdv A outer s H E hr => ⟨_,
    (pss_cons (ps_set (i := 3) sc__law_joined.nd rfl (.inr rfl) (pe_lst (pa_cons (pv 1) pa_nil)))
      (pss_cons (ps_for PassesOwn.never rfl (pi_range1 (by rfl) T.m_range (pa_cons (pe_ix ix_seq (pv 0) pe_int (fun _ _ => rfl)) pa_nil)) (pg_name (i := 4) sc__law_joined.nd rfl (.inl rfl)) (pss_cons (ps_set (i := 5) sc__law_joined.nd rfl (.inr rfl) (pe_lc (own := [("_law_pipe", 6)]) (g := (gName 6)) rfl sc__law_joined.nd (pi_tup (pe_ix ix_seq (pv 0) pe_int (fun _ _ => rfl))) (blkOk_by (own := [("_law_pipe", 6)]) (N := ["_law_flow_here", "_law_box", "_law_both", "_law_found", "_law_turn", "_law_more", "_law_pipe", "_law_k"]) (sc := defScope s_law_joined) (by decide +kernel)) (fun _ _ _ _ _ => (pg_name (i := 6) sc__law_joined.nd rfl (.inl rfl))) (fun _ _ _ _ _ => (pts_one (pt_cmpR (op_inDK (K := K) rfl (hu65 hr)) (pe_ix (ix_seqK (K := K) rfl) (pv 6) pe_int (fun _ _ => rfl)) (pv 3) (by rfl)))) (fun _ _ _ _ _ => (pe_ix (ix_seqK (K := K) rfl) (pv 6) pe_int (fun _ _ => rfl)))))
      (pss_cons (ps_set (i := 5) sc__law_joined.nd rfl (.inr rfl) (pe_op op_cat (pv 5) (pe_lc (own := [("_law_pipe", 6)]) (g := (gName 6)) rfl sc__law_joined.nd (pi_tup (pe_ix ix_seq (pv 0) pe_int (fun _ _ => rfl))) (blkOk_by (own := [("_law_pipe", 6)]) (N := ["_law_flow_here", "_law_box", "_law_both", "_law_found", "_law_turn", "_law_more", "_law_pipe", "_law_k"]) (sc := defScope s_law_joined) (by decide +kernel)) (fun _ _ _ _ _ => (pg_name (i := 6) sc__law_joined.nd rfl (.inl rfl))) (fun _ _ _ _ _ => (pts_one (PW.pt (pw_and (pt_val (pv 2)) (pw_and1 (pt_cmpR (op_inDK (K := K) rfl (hu65 hr)) (pe_ix (ix_seqK (K := K) rfl) (pv 6) pe_int (fun _ _ => rfl)) (pv 3) (by rfl))))))) (fun _ _ _ _ _ => (pe_ix (ix_seqK (K := K) rfl) (pv 6) pe_int (fun _ _ => rfl))))))
      (pss_one (ps_set (i := 3) sc__law_joined.nd rfl (.inr rfl) (pe_lc (own := [("_law_k", 7)]) (g := (gName 7)) rfl sc__law_joined.nd (pi_range1 (by rfl) T.m_range (pa_cons (pe_ix ix_seq (pv 0) pe_int (fun _ _ => rfl)) pa_nil)) (blkOk_by (own := [("_law_k", 7)]) (N := ["_law_flow_here", "_law_box", "_law_both", "_law_found", "_law_turn", "_law_more", "_law_pipe", "_law_k"]) (sc := defScope s_law_joined) (by decide +kernel)) (fun _ _ _ _ _ => (pg_name (i := 7) sc__law_joined.nd rfl (.inl rfl))) (fun _ _ _ _ _ => (pts_one (PW.pt (pw_or (pt_cmpR (op_inDK (K := K) rfl (hu65 hr)) (pv 7) (pv 3) (by rfl)) (pw_or1 (pt_cmpR (op_inDK (K := K) rfl (hu65 hr)) (pv 7) (pv 5) (by rfl))))))) (fun _ _ _ _ _ => (pv 7))))))))
      (pss_one (ps_ret (pv 3))))), fun F0 x hx => ?_⟩
  obtain ⟨f, b⟩ := x
  obtain ⟨⟨h1, h2, ok⟩, hb⟩ := hx
  simp only at h1 h2 ok hb
  show Wp _ _ ([.im (flowD f), .im (.int (b : Nat)), .im (.bool true)] ++ List.replicate _ .un) _
  have jl : ∀ {i l}, Jn f b i l → l.length ≤ f.n := fun {i l} j => by
    have := nodup_sub (D := List.range f.n) j.nd fun v hv => List.mem_range.mpr (j.mem v hv).1
    rwa [List.length_range] at this
  refine wp_seq (wp_set (d := .list (natsD [b])) (ev_lst (ea_cons (ev_var rfl) ea_nil)) ?_)
  refine wp_seq (wp_forR1 (n := (f.n : Nat)) (Pn := fun _ => True) (fun i Γ => ∃ l s4 s5 s6 s7, Γ = [.im (flowD f), .im (.int (b : Nat)), .im (.bool true), .im (.list (natsD l)), s4, s5, s6, s7] ∧ Jn f b i l) (ea_cons (ev_op (ev_var rfl) ev_int (opd_ixT rfl)) ea_nil) (by omega)
    ⟨[b], _, _, _, _, rfl, ⟨by simp, fun v hv => by simp at hv; subst hv; exact ⟨hb, .refl⟩, by simp, fun z => absurd z (Nat.lt_irrefl 0), .inr (by simp)⟩⟩ (fun i Γ' hi ⟨l, s4, s5, s6, s7, e, j⟩ => ?_) (fun Γ' ⟨l, s4, s5, s6, s7, e, j⟩ => ?_))
  · subst e
    have ln := jl j
    refine tg_name (wp_seq (wp_set (ev_lcTm (fun p => decide (p.one ∈ l)) (fun p => .int (p.other : Nat)) pipeD_inj (ev_op (ev_var rfl) ev_int (opd_ixT rfl)) (by omega) fun p _ => ⟨_, bn_name (by simp), et_eq (et_test (ev_op (ev_op (ev_var rfl) ev_int (opd_ixT rfl)) (ev_var rfl) (opd_in (n := 0) rfl (pl_nats l) (by decide) (by decide)))) (any_nats l p.one), fun _ => ev_op (ev_var rfl) ev_int (opd_ixT rfl)⟩) ?_))
    have q1 := List.length_filter_le (fun p : Pipe => decide (p.one ∈ l)) f.ps
    have q2 := List.length_filter_le (fun p : Pipe => decide (p.other ∈ l)) f.ps
    refine wp_seq (wp_set (d := .list (natsD (((f.ps.filter fun p => decide (p.one ∈ l)).map (·.other)) ++ ((f.ps.filter fun p => decide (p.other ∈ l)).map (·.one))))) (ev_eq (ev_op (ev_var rfl) (ev_lcTm (fun p => decide (p.other ∈ l)) (fun p => .int (p.one : Nat)) pipeD_inj (ev_op (ev_var rfl) ev_int (opd_ixT rfl)) (by omega) fun p _ => ⟨_, bn_name (by simp), et_eq (et_and (et_B (ev_var rfl)) fun _ => et_test (ev_op (ev_op (ev_var rfl) ev_int (opd_ixT rfl)) (ev_var rfl) (opd_in (n := 0) rfl (pl_nats l) (by decide) (by decide)))) (by rw [Bool.true_and]; exact any_nats l p.other), fun _ => ev_op (ev_var rfl) ev_int (opd_ixT rfl)⟩) (opd_cat (by simp only [List.length_map]; omega))) ?_) ?_)
    · show PyData.list _ = PyData.list _
      unfold natsD
      rw [List.map_append, List.map_map, List.map_map]
      rfl
    have more : ∀ v, v ∈ ((f.ps.filter fun p => decide (p.one ∈ l)).map (·.other)) ++ ((f.ps.filter fun p => decide (p.other ∈ l)).map (·.one)) ↔ ∃ u ∈ l, v ∈ nearL f u := fun v => by
      rw [List.mem_append, List.mem_map, List.mem_map]
      constructor
      · rintro (⟨p, hp, e⟩ | ⟨p, hp, e⟩)
        · rw [List.mem_filter, decide_eq_true_eq] at hp
          exact ⟨p.one, hp.2, near_mem.mpr ⟨p, hp.1, .inl ⟨rfl, e⟩⟩⟩
        · rw [List.mem_filter, decide_eq_true_eq] at hp
          exact ⟨p.other, hp.2, near_mem.mpr ⟨p, hp.1, .inr ⟨e, rfl⟩⟩⟩
      · rintro ⟨u, hu, hv⟩
        obtain ⟨p, hp, ⟨a, b⟩ | ⟨a, b⟩⟩ := near_mem.mp hv
        · exact .inl ⟨p, List.mem_filter.mpr ⟨hp, decide_eq_true (by rw [a]; exact hu)⟩, b⟩
        · exact .inr ⟨p, List.mem_filter.mpr ⟨hp, decide_eq_true (by rw [b]; exact hu)⟩, a⟩
    have mlen : (((f.ps.filter fun p => decide (p.one ∈ l)).map (·.other)) ++ ((f.ps.filter fun p => decide (p.other ∈ l)).map (·.one))).length ≤ 200 := by
      simp only [List.length_append, List.length_map]
      omega
    generalize ((f.ps.filter fun p => decide (p.one ∈ l)).map (·.other)) ++ ((f.ps.filter fun p => decide (p.other ∈ l)).map (·.one)) = mo at more mlen
    refine wp_set (ev_lcRm (n := f.n) (fun v => decide (v ∈ l) || decide (v ∈ mo)) (fun v => .int (v : Nat)) (ea_cons (ev_op (ev_var rfl) ev_int (opd_ixT rfl)) ea_nil) (by omega) fun v hv => ⟨_, bn_name (by simp), et_eq (et_or (et_test (ev_op (ev_var rfl) (ev_var rfl) (opd_in (n := 0) rfl (pl_nats l) (by decide) (by decide)))) fun _ => et_test (ev_op (ev_var rfl) (ev_var rfl) (opd_in (n := 0) rfl (pl_nats mo) (by decide) (by decide)))) (by rw [any_nats, any_nats]), fun _ => ev_var rfl⟩) ?_
    refine ⟨(List.range f.n).filter (fun v => decide (v ∈ l) || decide (v ∈ mo)), _, _, _, _, rfl, ?_⟩
    have nm : ∀ v, v ∈ (List.range f.n).filter (fun v => decide (v ∈ l) || decide (v ∈ mo)) ↔ v < f.n ∧ (v ∈ l ∨ ∃ u ∈ l, v ∈ nearL f u) := fun v => by
      rw [List.mem_filter, List.mem_range, Bool.or_eq_true, decide_eq_true_eq, decide_eq_true_eq, more]
    have ps : ((List.range f.n).filter (fun v => decide (v ∈ l) || decide (v ∈ mo))).Pairwise (· < ·) := List.Pairwise.filter _ List.pairwise_lt_range
    generalize (List.range f.n).filter (fun v => decide (v ∈ l) || decide (v ∈ mo)) = l2 at nm ps
    have sub : ∀ v ∈ l, v ∈ l2 := fun v hv => (nm v).mpr ⟨(j.mem v hv).1, .inl hv⟩
    refine ⟨ps.imp fun h => Nat.ne_of_lt h, fun v hv => ?_, sub _ j.box, fun _ => ps, ?_⟩
    · obtain ⟨a, h | ⟨u, hu, hv⟩⟩ := (nm v).mp hv
      · exact j.mem v h
      · exact ⟨a, .step (j.mem u hu).2 hv⟩
    · by_cases c : Closed f (fun v => v ∈ l)
      · left
        intro u v hu hv
        obtain ⟨_, h | ⟨t, ht, hu⟩⟩ := (nm u).mp hu
        · exact sub v (c u v h hv)
        · exact sub v (c u v (c t u ht hu) hv)
      · right
        rcases j.big with z | z
        · exact absurd z c
        · have : ∃ v, v ∈ l2 ∧ v ∉ l := Classical.byContradiction fun no => c fun u v hu hv => Classical.byContradiction fun nv => no ⟨v, (nm v).mpr ⟨near_lt ok hv, .inr ⟨u, hu, hv⟩⟩, nv⟩
          obtain ⟨v, hv, nv⟩ := this
          have := nodup_sub (l := v :: l) (D := l2) (List.nodup_cons.mpr ⟨nv, j.nd⟩) fun x hx => by
            rcases List.mem_cons.mp hx with e | h
            · rw [e]; exact hv
            · exact sub x h
          have e : (v :: l).length = l.length + 1 := rfl
          omega
  · subst e
    have ln := jl j
    rw [Int.toNat_natCast] at j
    have cl : Closed f (fun v => v ∈ l) := by
      rcases j.big with z | z
      · exact z
      · omega
    refine wp_retD (ev_var rfl) ?_
    have : l = comp f b := comp_eq (j.flt (by omega)) fun v => ⟨fun h => j.mem v h, fun h => h.2.closed cl j.box⟩
    show PyData.list _ = PyData.list _
    rw [this]
end
end Dl
set_option Elab.async false
set_option linter.all false
set_option maxRecDepth 100000
set_option maxHeartbeats 1000000
/-! Walks 8: shares of the boxes. -/
namespace Dl
open PySem PySem.Spec PyProof.Rows L2 C8 Rf
/-! ### balanced counts -/
structure Good (f : Flow) (c : Nat → Nat) : Prop extends Shape f where
  bal : ∀ p ∈ f.ps, c p.one * p.give = c p.other * p.eat
  pos : ∀ v, v < f.n → 1 ≤ c v ∧ c v ≤ 4
  rate : ∀ p ∈ f.ps, (1 ≤ p.give ∧ p.give ≤ 8) ∧ (1 ≤ p.eat ∧ p.eat ≤ 8)
noncomputable def root (f : Flow) (v : Nat) : Nat := (comp f v).headD 0
noncomputable def share (f : Flow) (c : Nat → Nat) (v : Nat) : Int × Int := rd (c v : Nat) (c (root f v) : Nat)
theorem root_mem {f : Flow} {v : Nat} (h : v < f.n) : root f v < f.n ∧ Conn f v (root f v) := by
  have ne := comp_ne (f := f) h
  obtain ⟨b, l, hbl⟩ : ∃ b l, comp f v = b :: l := List.exists_cons_of_ne_nil ne
  have : root f v = b := by unfold root; rw [hbl]; rfl
  rw [this]
  exact comp_mem.mp (by rw [hbl]; exact List.mem_cons_self)
theorem root_same {f : Flow} {u v : Nat} (h : Conn f u v) : root f u = root f v := by unfold root; rw [comp_same h]
theorem root_head {f : Flow} {b : Nat} (h : isHead f b) : root f b = b := by
  unfold isHead at h
  unfold root
  cases e : comp f b with
  | nil => rw [e] at h; cases h
  | cons a l => rw [e] at h; exact Option.some.inj h
theorem head_root {f : Flow} {v : Nat} (h : v < f.n) : isHead f (root f v) := by
  unfold isHead
  rw [← comp_same (root_mem h).2]
  have ne := comp_ne (f := f) h
  unfold root
  cases e : comp f v with
  | nil => exact absurd e ne
  | cons a l => rfl
section
variable {f : Flow} {c : Nat → Nat} (G : Good f c)
include G
theorem share_bd {v : Nat} (h : v < f.n) : 0 < (share f c v).1 ∧ (share f c v).1 ≤ 4 ∧ 0 < (share f c v).2 ∧ (share f c v).2 ≤ 4 := by
  have h1 := G.pos v h
  have h2 := G.pos _ (root_mem h).1
  have hb : (0 : Int) < (c (root f v) : Nat) := by omega
  have p2 := rd_pos (a := (c v : Nat)) hb
  have l2 := rd_le (a := (c v : Nat)) hb
  obtain ⟨g, hg, e1, e2⟩ := rd_mul (a := (c v : Nat)) hb
  have p1 : 0 < (rd (c v : Nat) (c (root f v) : Nat)).1 := by
    refine Int.pos_of_mul_pos_left ?_ hg
    rw [← e1]
    omega
  have l1 := rd_abs (a := (c v : Nat)) hb
  unfold share
  omega
theorem share_mul {v : Nat} (h : v < f.n) : ∃ g : Int, 0 < g ∧ ((c v : Nat) : Int) = (share f c v).1 * g ∧ ((c (root f v) : Nat) : Int) = (share f c v).2 * g :=
  rd_mul (a := (c v : Nat)) (by have := (G.pos _ (root_mem h).1).1; omega)
theorem share_step {u v : Nat} {a b : Nat} (hu : u < f.n) (hv : v < f.n) (hc : Conn f u v) (e : c u * a = c v * b) (ha : 0 < a) (hb : 0 < b) : rd ((share f c u).1 * a) ((share f c u).2 * b) = share f c v := by
  obtain ⟨g, hg, e1, e2⟩ := share_mul G hu
  have pu := share_bd G hu
  have er := root_same hc
  have hr := (G.pos _ (root_mem hv).1).1
  unfold share at e1 e2 pu ⊢
  rw [er] at e1 e2 pu ⊢
  generalize rd (c u : Nat) (c (root f v) : Nat) = s at e1 e2 pu
  have e' : ((c u : Nat) : Int) * a = (c v : Nat) * b := by exact_mod_cast e
  refine rd_eq (Int.mul_pos pu.2.2.1 (by omega)) (by omega) ?_
  rw [e2]
  calc s.1 * ↑a * (s.2 * g) = (s.1 * g * a) * s.2 := by simp [Int.mul_assoc, Int.mul_comm, Int.mul_left_comm]
    _ = ((c v : Nat) * b) * s.2 := by rw [← e1, e']
    _ = (c v : Nat) * (s.2 * b) := by simp [Int.mul_assoc, Int.mul_comm, Int.mul_left_comm]
end
theorem share_head {f : Flow} {c : Nat → Nat} (G : Good f c) {b : Nat} (h : isHead f b) (hb : b < f.n) : share f c b = (1, 1) := by
  unfold share
  rw [root_head h]
  have := (G.pos b hb).1
  have e : rd (c b : Nat) (c b : Nat) = rd 1 1 := rd_eq (by omega) (by omega) (by omega)
  rw [e]
  decide
/-! ### assoc lists -/
theorem aget_map {g : Nat → PyData} (l : List Nat) (v : Nat) : aget (l.map fun v => (((v : Nat) : Int), g v)) (v : Int) = if v ∈ l then some (g v) else none := by
  induction l with
  | nil => rfl
  | cons a l ih =>
    by_cases h : a = v
    · subst h
      simp [aget]
    · have h' : ¬ ((a : Nat) : Int) = (v : Int) := by omega
      have h2 : ¬ v = a := fun e => h e.symm
      have e1 : aget ((a :: l).map fun v => (((v : Nat) : Int), g v)) (v : Int) = aget (l.map fun v => (((v : Nat) : Int), g v)) (v : Int) := by simp [aget, List.find?_cons, h']
      rw [e1, ih]
      simp [h2]
theorem aput_new {κ : Type} [DecidableEq κ] {kvs : List (κ × PyData)} {k : κ} {d : PyData} (h : aget kvs k = none) : aput kvs k d = kvs ++ [(k, d)] := by
  unfold aput
  rw [h]
  rfl
theorem aget_cons {κ : Type} [DecidableEq κ] (k0 : κ) (d0 : PyData) (kvs : List (κ × PyData)) (k : κ) : aget ((k0, d0) :: kvs) k = if k0 = k then some d0 else aget kvs k := by
  by_cases h : k0 = k <;> simp [aget, List.find?_cons, h]
theorem aget_mapput {κ : Type} [DecidableEq κ] (kvs : List (κ × PyData)) (k k' : κ) (d : PyData) : aget (kvs.map fun p => if p.1 = k then (k, d) else p) k' = if k' = k then (aget kvs k).map (fun _ => d) else aget kvs k' := by
  induction kvs with
  | nil => by_cases h : k' = k <;> simp [aget, h]
  | cons p kvs ih =>
    obtain ⟨k0, d0⟩ := p
    rw [List.map_cons, aget_cons, aget_cons]
    by_cases h0 : k0 = k
    · rw [if_pos h0, aget_cons, if_pos h0]
      by_cases h : k' = k
      · rw [if_pos h, if_pos h.symm]
        rfl
      · rw [if_neg h, if_neg fun e => h e.symm, ih, if_neg h, if_neg fun e => h (by rw [← e, h0])]
    · rw [if_neg h0, aget_cons, if_neg h0, ih]
      by_cases h : k' = k
      · rw [if_pos h, if_pos h, if_neg fun e => h0 (e.trans h)]
      · rw [if_neg h, if_neg h]
theorem aget_app {κ : Type} [DecidableEq κ] (kvs : List (κ × PyData)) (k k' : κ) (d : PyData) : aget (kvs ++ [(k, d)]) k' = match aget kvs k' with | some x => some x | none => if k = k' then some d else none := by
  induction kvs with
  | nil => rw [List.nil_append, aget_cons]; rfl
  | cons p kvs ih =>
    obtain ⟨k0, d0⟩ := p
    rw [List.cons_append, aget_cons, aget_cons, ih]
    by_cases h : k0 = k' <;> simp [h]
theorem aget_put {κ : Type} [DecidableEq κ] {kvs : List (κ × PyData)} {k k' : κ} {d : PyData} : aget (aput kvs k d) k' = if k' = k then some d else aget kvs k' := by
  unfold aput
  by_cases h : (aget kvs k).isSome = true
  · obtain ⟨x, hx⟩ := Option.isSome_iff_exists.mp h
    rw [if_pos h, aget_mapput, hx]
    rfl
  · have hn : aget kvs k = none := by simpa using h
    rw [if_neg h, aget_app]
    by_cases e : k' = k
    · rw [if_pos e, e, hn]
      simp
    · rw [if_neg e, if_neg fun z => e z.symm]
      cases aget kvs k' <;> rfl
theorem aput_len {κ : Type} [DecidableEq κ] (kvs : List (κ × PyData)) (k : κ) (d : PyData) : (aput kvs k d).length ≤ kvs.length + 1 := by
  unfold aput
  split
  · rw [List.length_map]; omega
  · rw [List.length_append]; exact Nat.le_refl _
/-! ### the walk -/
noncomputable abbrev sharesL (f : Flow) (c : Nat → Nat) (done : List Nat) : List (Int × PyData) := done.map fun v => (((v : Nat) : Int), pI (share f c v))
structure LnOk (lk : List (Int × PyData)) (done : List Nat) : Prop where
  len : lk.length ≤ done.length
  get : ∀ v ∈ done, ∃ ds : List PyData, aget lk ((v : Nat) : Int) = some (.tuple ds) ∧ ds.length ≤ done.length
structure Sh (f : Flow) (b : Nat) (old done rows : List Nat) (here : Option Nat) : Prop where
  nd : done.Nodup
  lt : ∀ v ∈ done, v < f.n
  mem : ∀ v ∈ done, v ∈ old ∨ Conn f b v
  old : ∀ v ∈ old, v ∈ done
  box : b ∈ done
  rs : ∀ v ∈ rows, v ∈ done ∧ Conn f b v
  cl : ∀ u ∈ done, Conn f b u → u ∉ rows → some u ≠ here → ∀ v ∈ nearL f u, v ∈ done
theorem LnOk.put {lk : List (Int × PyData)} {done : List Nat} (h : LnOk lk done) {v : Nat} {ds : List PyData} (hd : ds.length ≤ done.length + 1) : LnOk (aput lk ((v : Nat) : Int) (.tuple ds)) (done ++ [v]) := by
  have e : (done ++ [v]).length = done.length + 1 := by simp
  refine ⟨by have := aput_len lk ((v : Nat) : Int) (.tuple ds); have := h.len; omega, fun u hu => ?_⟩
  rw [aget_put]
  by_cases z : u = v
  · rw [if_pos (by rw [z])]
    exact ⟨ds, rfl, by omega⟩
  · rw [if_neg (by omega)]
    rcases List.mem_append.mp hu with y | y
    · obtain ⟨es, e1, e2⟩ := h.get u y
      exact ⟨es, e1, by omega⟩
    · simp at y
      exact absurd y z
theorem sharesL_put {f : Flow} {c : Nat → Nat} {done : List Nat} {v : Nat} (h : v ∉ done) : aput (sharesL f c done) ((v : Nat) : Int) (pI (share f c v)) = sharesL f c (done ++ [v]) := by
  rw [aput_new (by rw [aget_map, if_neg h])]
  unfold sharesL
  rw [List.map_append]
  rfl
theorem Sh.len {f : Flow} {b : Nat} {old done rows : List Nat} {here : Option Nat} (s : Sh f b old done rows here) : done.length ≤ f.n := by
  have := nodup_sub (D := List.range f.n) s.nd fun v hv => List.mem_range.mpr (s.lt v hv)
  rwa [List.length_range] at this
/-- one more is found behind here -/
theorem Sh.more {f : Flow} {b here v : Nat} {old done rows : List Nat} (s : Sh f b old done rows (some here)) (hv : v < f.n) (hc : Conn f b v) (hn : v ∉ done) : Sh f b old (done ++ [v]) (rows ++ [v]) (some here) := by
  refine ⟨List.nodup_append.mpr ⟨s.nd, by simp, fun a ha d hd z => hn (by simp at hd; rw [← hd, ← z]; exact ha)⟩, fun x hx => ?_, fun x hx => ?_, fun x hx => List.mem_append_left _ (s.old x hx), List.mem_append_left _ s.box, fun x hx => ?_, fun u hu h1 h2 h3 x hx => ?_⟩
  · rcases List.mem_append.mp hx with z | z
    · exact s.lt x z
    · simp at z; rw [z]; exact hv
  · rcases List.mem_append.mp hx with z | z
    · exact s.mem x z
    · simp at z; rw [z]; exact .inr hc
  · rcases List.mem_append.mp hx with z | z
    · exact ⟨List.mem_append_left _ (s.rs x z).1, (s.rs x z).2⟩
    · simp at z; rw [z]; exact ⟨by simp, hc⟩
  · rcases List.mem_append.mp hu with z | z
    · exact List.mem_append_left _ (s.cl u z h1 (fun y => h2 (List.mem_append_left _ y)) h3 x hx)
    · exact absurd (List.mem_append_right _ z) h2
theorem pw_take {l : List Nat} (h : l.Pairwise (· < ·)) {i b x : Nat} (hb : l[i]? = some b) (hx : x ∈ l.take i) : x < b := by
  obtain ⟨hi, e⟩ := List.getElem?_eq_some_iff.mp hb
  rw [← List.take_append_drop i l] at h
  refine (List.pairwise_append.mp h).2.2 x hx b ?_
  rw [List.drop_eq_getElem_cons hi, e]
  exact List.mem_cons_self
section
variable {P : Program} {w : World} {K : PySem.W.Frag} {mg : PySem.Str → Option Value} {base : Heap}
abbrev eFC (x : Flow × (Nat → Nat)) : List PyData := [flowD x.1]
def SharesPost (x : Flow × (Nat → Nat)) (r : PyData) : Prop := ∃ (done : List Nat) (lk : List (Int × PyData)), r = .tuple [adD (sharesL x.1 x.2 done), adD lk] ∧ ∀ v, v < x.1.n → v ∈ done
abbrev spShares : Sp := spA eFC (fun x => Good x.1 x.2) SharesPost
theorem sc_shares_in : FnScope ["flow", "shares", "lines", "part", "rows", "here", "index", "one", "other", "give", "eat", "start", "forward", "near", "there", "rate"] ["flow"] (defScope s_shares_in) := ⟨rfl, rfl, rfl, by decide +kernel, rfl, by decide +kernel, by decide +kernel⟩
theorem pl_pI (p : Int × Int) : Pl 1 (pI p) = true := rfl
theorem ok_shares_in (T : Tx mg) (F : Df K mg "shares_in" s_shares_in) (c_parts_in : Cal P w K mg base 2 "parts_in" spParts []) (c_times : Cal P w K mg base 3 "times" spTim []) : Cal P w K mg base 4 "shares_in" spShares [] := by
  refine calA _ _ _ F sc_shares_in rfl (by decide) (fun _ => rfl) (fun _ _ _ _ _ _ us hl => match us, hl with | [_], _ => rfl) fun f cdv A outer s H E hr => ⟨_,
    (pss_cons (ps_par (i := 1) (j := 2) (by rfl) sc_shares_in.nd rfl rfl (by decide) rfl rfl (pa_cons pe_dnewK (pa_cons pe_dnewK pa_nil)) (by rfl))
      (pss_cons (ps_for PassesOwn.never rfl (pi_list (pe_c c_parts_in hr (by decide) (by rfl) (pa_cons (pv 0) pa_nil))) (pg_name (i := 3) sc_shares_in.nd rfl (.inl rfl)) (pss_cons (ps_asg (pe_tup (pa_cons (pe_tup (pa_cons pe_int (pa_cons pe_int pa_nil))) (pa_cons (pe_tup pa_nil) (pa_cons (pe_lst (pa_cons (pe_ix ix_seq (pv 3) pe_int (fun _ _ => rfl)) pa_nil)) pa_nil)))) (pg_tup rfl (pgs_cons (pg_sub (pv 1) (pe_ix ix_seq (pv 3) pe_int (fun _ _ => rfl)) (set_dict (hu_of hr))) (pgs_cons (pg_sub (pv 2) (pe_ix ix_seq (pv 3) pe_int (fun _ _ => rfl)) (set_dict (hu_of hr))) (pgs_cons (pg_name (i := 4) sc_shares_in.nd rfl (.inl rfl)) pgs_nil)))))
      (pss_one (ps_while PassesOwn.never (pt_cmpR (op_neD (hu64 hr)) (pv 4) (pe_lst pa_nil) (nomark _)) (pss_cons (ps_set (i := 5) sc_shares_in.nd rfl (.inl rfl) (pe_bm0 PySem.F.plainAttrs_list PySem.F.slot_list_pop PySem.F.type_list_pop mt_pop (pv 4)))
      (pss_one (ps_for PassesOwn.never rfl (pi_enumT (by rfl) T.m_enumerate (pa_cons (pe_ix ix_seq (pv 0) pe_int (fun _ _ => rfl)) pa_nil)) (pg_tup rfl (pgs_cons (pg_name (i := 6) sc_shares_in.nd rfl (.inl rfl)) (pgs_cons (pg_tup rfl (pgs_cons (pg_name (i := 7) sc_shares_in.nd rfl (.inl rfl)) (pgs_cons (pg_name (i := 8) sc_shares_in.nd rfl (.inl rfl)) (pgs_cons (pg_name (i := 9) sc_shares_in.nd rfl (.inl rfl)) (pgs_cons (pg_name (i := 10) sc_shares_in.nd rfl (.inl rfl)) (pgs_cons (pg_name (i := 11) sc_shares_in.nd rfl (.inl rfl)) pgs_nil)))))) pgs_nil))) (pss_one (ps_for PassesOwn.never rfl (pi_tup (pe_tup (pa_cons pe_bl (pa_cons pe_bl pa_nil)))) (pg_name (i := 12) sc_shares_in.nd rfl (.inl rfl)) (pss_cons (ps_asg (pe_ifExp (pt_val (pv 12)) (pe_tup (pa_cons (pv 7) (pa_cons (pv 8) pa_nil))) (pe_tup (pa_cons (pv 8) (pa_cons (pv 7) pa_nil)))) (pg_tup rfl (pgs_cons (pg_name (i := 13) sc_shares_in.nd rfl (.inl rfl)) (pgs_cons (pg_name (i := 14) sc_shares_in.nd rfl (.inl rfl)) pgs_nil))))
      (pss_one (ps_if (PW.pt (pw_and (pt_cmpR (op_eqD (hu64 hr)) (pv 13) (pv 5) (nomark _)) (pw_and1 (pt_cmp (pc_dnotin (hu_of hr) (pv 14) (pv 1)))))) (pss_cons (ps_set (i := 15) sc_shares_in.nd rfl (.inl rfl) (pe_ifExp (pt_val (pv 12)) (pe_tup (pa_cons (pv 9) (pa_cons (pv 10) pa_nil))) (pe_tup (pa_cons (pv 10) (pa_cons (pv 9) pa_nil)))))
      (pss_cons (ps_asg (pe_c c_times hr (by decide) (by rfl) (pa_cons (pe_dget (hu_of hr) (pv 1) (pv 5) (fun _ _ => rfl)) (pa_cons (pv 15) pa_nil))) (pg_sub (pv 1) (pv 14) (set_dict (hu_of hr))))
      (pss_cons (ps_asg (pe_op op_catA (pe_dget (hu_of hr) (pv 2) (pv 5) (fun _ _ => rfl)) (pe_tup (pa_cons (pe_tup (pa_cons (pv 6) (pa_cons (pv 12) pa_nil))) pa_nil))) (pg_sub (pv 2) (pv 14) (set_dict (hu_of hr))))
      (pss_one (ps_expr (pe_bm PySem.F.plainAttrs_list PySem.F.slot_list_append PySem.F.type_list_append mt_append (pv 4) (pa_cons (pv 14) pa_nil))))))) pss_nil))))))))))))
      (pss_one (ps_ret (pe_tup (pa_cons (pv 1) (pa_cons (pv 2) pa_nil))))))), fun F0 x hx => ?_⟩
  obtain ⟨f, c⟩ := x
  have G : Good f c := hx
  clear hx
  have h1 := G.n
  have h2 := G.ps
  have ok := G.ends
  show Wp _ _ ([.im (flowD f)] ++ List.replicate _ .un) _
  refine wp_seq (wp_par (es_cons evs_dk (es_cons evs_dk esp_nil)) fun ss e => ⟨_, _, e, ?_⟩)
  have hn : ∀ i, (heads f i).length ≤ i := fun i => Nat.le_trans (List.length_filter_le ..) (by rw [List.length_range]; exact Nat.le_refl _)
  have hsrt : (heads f f.n).Pairwise (· < ·) := List.Pairwise.filter _ List.pairwise_lt_range
  have hmem : ∀ b ∈ heads f f.n, b < f.n ∧ isHead f b := fun b hb => by
    unfold heads at hb
    rw [List.mem_filter, List.mem_range, decide_eq_true_eq] at hb
    exact hb
  refine wp_seq (wp_forL (Pl := fun _ => True) (ds := partsD f (heads f f.n)) (fun i Γ => ∃ done lk s3 s4 s5 s6 s7 s8 s9 t0 t1 t2 t3 t4 t5, Γ = [.im (flowD f), .dk (sharesL f c done), .dk lk, s3, s4, s5, s6, s7, s8, s9, t0, t1, t2, t3, t4, t5] ∧ LnOk lk done ∧ done.Nodup ∧ (∀ v ∈ done, v < f.n) ∧ (∀ v, v < f.n → (v ∈ done ↔ ∃ b ∈ (heads f f.n).take i, Conn f b v)))
    (ev_callA f (ea_cons (ev_var rfl) ea_nil) rfl G.toShape) ⟨[], [], _, _, _, _, _, _, _, _, _, _, _, _, _, rfl, ⟨Nat.le_refl _, fun v hv => (nomatch hv)⟩, List.nodup_nil, fun v hv => (nomatch hv), fun v _ => ⟨fun z => (nomatch z), fun ⟨b, hb, _⟩ => by rw [List.take_zero] at hb; cases hb⟩⟩ (fun i d Γ' hd ⟨done0, lk0, s3, s4, s5, s6, s7, s8, s9, t0, t1, t2, t3, t4, t5, e, ln0, nd0, lt0, me0⟩ => ?_) (fun Γ' ⟨done0, lk0, s3, s4, s5, s6, s7, s8, s9, t0, t1, t2, t3, t4, t5, e, ln0, nd0, lt0, me0⟩ => ?_))
  · subst e
    obtain ⟨b, hb, rfl⟩ := map_get hd
    obtain ⟨bn, bh⟩ := hmem b (List.mem_of_getElem? hb)
    obtain ⟨l, hbl⟩ : ∃ l, comp f b = b :: l := by
      unfold isHead at bh
      cases e : comp f b with
      | nil => rw [e] at bh; cases bh
      | cons a l => rw [e] at bh; rw [Option.some.inj bh]; exact ⟨l, rfl⟩
    have nb : b ∉ done0 := fun z => by
      obtain ⟨b', hb', hc⟩ := (me0 b bn).mp z
      have e1 := root_head (hmem b' (List.mem_of_mem_take hb')).2
      have e2 := root_head bh
      rw [root_same hc, e2] at e1
      subst e1
      have := pw_take hsrt hb hb'
      omega
    have ep : ∀ {B : Bs} {Γ : List Sk}, Γ[3]? = some (.im (.tuple (natsD (comp f b)))) → Ev B (tOp (rIx K) (tVar 3) (tC (.int 0))) Γ (.int (b : Nat)) := fun h => ev_op (ev_var h) ev_int (opd_ixT (by rw [hbl]; exact at_map (i := 0) (x := b) rfl))
    have l0 := nodup_sub (D := List.range f.n) nd0 fun v hv => List.mem_range.mpr (lt0 v hv)
    rw [List.length_range] at l0
    have ln0l := ln0.len
    refine tg_name (wp_seq (wp_asgT (Ps := fun ss => ss = [.im (pI (1, 1)), .im (.tuple []), .ml (natsD [b])]) (es_cons (evs_d (ev_tup (ea_cons ev_int (ea_cons ev_int ea_nil)))) (es_cons (evs_d (ev_tup ea_nil)) (es_cons (evs_mono (evs_lst (ea_cons (ep rfl) ea_nil) (fun ds e => by rw [e]; exact Nat.le_of_ble_eq_true rfl)) fun s ⟨ds, e1, e2⟩ => by rw [e1, e2]; rfl) esp_nil))) fun ss e => ?_))
    subst e
    refine ⟨rfl, by show 3 ≤ 100000; decide, bts_subM (i := 1) rfl rfl rfl (ep rfl) (sd_dk (by rw [List.length_map]; omega)) (bts_subM (i := 2) rfl rfl rfl (ep rfl) (sd_dk (by omega)) (bts_name (bts_nil ?_)))⟩
    have sp := sharesL_put (f := f) (c := c) nb
    rw [share_head G bh bn] at sp
    have sh0 : Sh f b done0 (done0 ++ [b]) [b] none := by
      refine ⟨List.nodup_append.mpr ⟨nd0, by simp, fun a ha d hd z => nb (by simp at hd; rw [← hd, ← z]; exact ha)⟩, fun x hx => ?_, fun x hx => ?_, fun x hx => List.mem_append_left _ hx, by simp, fun x hx => ?_, fun u hu hc hn _ x hx => ?_⟩
      · rcases List.mem_append.mp hx with z | z
        · exact lt0 x z
        · simp at z; rw [z]; exact bn
      · rcases List.mem_append.mp hx with z | z
        · exact .inl z
        · simp at z; rw [z]; exact .inr .refl
      · simp at hx; rw [hx]; exact ⟨by simp, .refl⟩
      · rcases List.mem_append.mp hu with z | z
        · obtain ⟨b', hb', hc'⟩ := (me0 u (lt0 u z)).mp z
          exact absurd ((me0 b bn).mpr ⟨b', hb', hc'.trans hc.symm⟩) nb
        · exact absurd z hn
    show Wp _ _ [_, Sk.dk (aput (sharesL f c done0) ((b : Nat) : Int) (pI (1, 1))), Sk.dk (aput lk0 ((b : Nat) : Int) (.tuple [])), _, Sk.ml (natsD [b]), _, _, _, _, _, _, _, _, _, _, _] _
    rw [sp]
    refine wp_while (fun k Γ => ∃ done lk rows s3 s5 s6 s7 s8 s9 t0 t1 t2 t3 t4 t5, Γ = [.im (flowD f), .dk (sharesL f c done), .dk lk, s3, .ml (natsD rows), s5, s6, s7, s8, s9, t0, t1, t2, t3, t4, t5] ∧ Sh f b done0 done rows none ∧ LnOk lk done ∧ 2 * (f.n - done.length) + rows.length = k ∧ k ≤ 1000) (2 * (f.n - (done0 ++ [b]).length) + 1)
      ⟨done0 ++ [b], _, [b], _, _, _, _, _, _, _, _, _, _, _, _, rfl, sh0, ln0.put (Nat.zero_le _), rfl, by omega⟩ ?_
    rintro k Γ' ⟨done, lk, rows, s3, s5, s6, s7, s8, s9, t0, t1, t2, t3, t4, t5, rfl, sh, ln, hk, hk9⟩
    refine ⟨fun z => z = !decide (rows = []), etp_peek rfl (i := 4) rfl rfl (ne_nil_nats (ev_var rfl)), fun e => ?_, fun e => ?_⟩
    · have hr : rows ≠ [] := by simpa using e.symm
      have lr : 0 < rows.length := List.length_pos_iff.mpr hr
      have hg : rows[rows.length - 1]? = some (rows.getLast hr) := by rw [← List.getLast?_eq_getElem?, List.getLast?_eq_getLast hr]
      refine wp_seq (wp_pop (i := 4) (j := 5) (d := .int ((rows.getLast hr : Nat) : Nat)) rfl (by rw [List.length_map, List.getElem?_map, hg]; rfl) (by decide) ?_)
      obtain ⟨hmm, hcon⟩ := sh.rs _ (List.getLast_mem hr)
      have hsh : Sh f b done0 done rows.dropLast (some (rows.getLast hr)) := ⟨sh.nd, sh.lt, sh.mem, sh.old, sh.box, fun v hv => sh.rs v ((mem_drop hr).mpr (.inl hv)), fun u hu hc h1 h2 => sh.cl u hu hc (fun z => ((mem_drop hr).mp z).elim h1 (fun y => h2 (by rw [y]))) (by simp)⟩
      have hdl : rows.dropLast.length = rows.length - 1 := List.length_dropLast
      have edl : (natsD rows).dropLast = natsD rows.dropLast := by unfold natsD; rw [List.map_dropLast]
      rw [edl]
      generalize rows.getLast hr = here at hmm hcon hsh
      generalize rows.dropLast = rows' at hsh hdl
      refine wp_forET (fun i Γ => ∃ done rows lk s3 s6 s7 s8 s9 t0 t1 t2 t3 t4 t5, Γ = [.im (flowD f), .dk (sharesL f c done), .dk lk, s3, .ml (natsD rows), .im (.int (here : Nat)), s6, s7, s8, s9, t0, t1, t2, t3, t4, t5] ∧ Sh f b done0 done rows (some here) ∧ here ∈ done ∧ LnOk lk done ∧ 2 * (f.n - done.length) + rows.length < k ∧ (∀ (j : Nat) (p : Pipe), j < i → f.ps[j]? = some p → (p.one = here → p.other ∈ done) ∧ (p.other = here → p.one ∈ done)))
        (ea_cons (ev_op (ev_var rfl) ev_int (opd_ixT rfl)) ea_nil) ⟨done, rows', lk, _, _, _, _, _, _, _, _, _, _, _, rfl, hsh, hmm, ln, by omega, fun j p hj => absurd hj (Nat.not_lt_zero j)⟩ (fun i d Γ' hd ⟨do1, ro1, lk1, s3, s6, s7, s8, s9, t0, t1, t2, t3, t4, t5, e, sh1, hm1, ln1, hk1, pr1⟩ => ?_) (fun Γ' ⟨do1, ro1, lk1, s3, s6, s7, s8, s9, t0, t1, t2, t3, t4, t5, e, sh1, hm1, ln1, hk1, pr1⟩ => ?_)
      · subst e
        obtain ⟨p, hp, rfl⟩ := map_get hd
        have pm := List.mem_of_getElem? hp
        obtain ⟨⟨ga, gb⟩, ea, eb⟩ := G.rate p pm
        have pbal := G.bal p pm
        refine tg_tup rfl (bts_name (bts_tup (es := []) rfl (bts_name (bts_name (bts_name (bts_name (bts_name (bts_nil (bts_nil ?_)))))))))
        refine wp_forT (ds := [.bool true, .bool false]) (fun j Γ => ∃ done rows lk s3 t2 t3 t4 t5, Γ = [.im (flowD f), .dk (sharesL f c done), .dk lk, s3, .ml (natsD rows), .im (.int (here : Nat)), .im (.int (i : Nat)), .im (.int (p.one : Nat)), .im (.int (p.other : Nat)), .im (.int (p.give : Nat)), .im (.int (p.eat : Nat)), .im (.int (p.start : Nat)), t2, t3, t4, t5] ∧ Sh f b done0 done rows (some here) ∧ here ∈ done ∧ LnOk lk done ∧ 2 * (f.n - done.length) + rows.length < k ∧ (∀ (j : Nat) (p : Pipe), j < i → f.ps[j]? = some p → (p.one = here → p.other ∈ done) ∧ (p.other = here → p.one ∈ done)) ∧ (0 < j → p.one = here → p.other ∈ done) ∧ (1 < j → p.other = here → p.one ∈ done))
          (ev_tup (ea_cons ev_bl (ea_cons ev_bl ea_nil))) ⟨do1, ro1, lk1, _, _, _, _, _, rfl, sh1, hm1, ln1, hk1, pr1, fun z => absurd z (Nat.lt_irrefl 0), fun z => absurd z (by omega)⟩ (fun j d Γ' hd ⟨do2, ro2, lk2, s3, t2, t3, t4, t5, e, sh2, hm2, ln2, hk2, pr2, qa2, qb2⟩ => ?_) (fun Γ' ⟨do2, ro2, lk2, s3, t2, t3, t4, t5, e, sh2, hm2, ln2, hk2, pr2, qa2, qb2⟩ => ?_)
        · subst e
          obtain ⟨fw, nr, th, ra, rb, rfl, hif1, hif2, hth, hbal, hra, hrb, hq⟩ : ∃ (fw : Bool) (nr th ra rb : Nat), d = .bool fw ∧ (if fw = true then PyData.tuple [.int (p.one : Nat), .int (p.other : Nat)] else .tuple [.int (p.other : Nat), .int (p.one : Nat)]) = .tuple [.int (nr : Nat), .int (th : Nat)] ∧ (if fw = true then PyData.tuple [.int (p.give : Nat), .int (p.eat : Nat)] else .tuple [.int (p.eat : Nat), .int (p.give : Nat)]) = .tuple [.int (ra : Nat), .int (rb : Nat)] ∧
              th ∈ nearL f nr ∧ c nr * ra = c th * rb ∧ (1 ≤ ra ∧ ra ≤ 8) ∧ (1 ≤ rb ∧ rb ≤ 8) ∧ (∀ D : List Nat, (∀ v ∈ do2, v ∈ D) → (nr = here → th ∈ D) → (0 < j + 1 → p.one = here → p.other ∈ D) ∧ (1 < j + 1 → p.other = here → p.one ∈ D)) := by
            match j, hd with
            | 0, hd => exact ⟨true, p.one, p.other, p.give, p.eat, (Option.some.inj hd).symm, rfl, rfl, near_mem.mpr ⟨p, pm, .inl ⟨rfl, rfl⟩⟩, pbal, ⟨ga, gb⟩, ⟨ea, eb⟩, fun D h1 h2 => ⟨fun _ => h2, fun z => absurd z (by omega)⟩⟩
            | 1, hd => exact ⟨false, p.other, p.one, p.eat, p.give, (Option.some.inj hd).symm, rfl, rfl, near_mem.mpr ⟨p, pm, .inr ⟨rfl, rfl⟩⟩, pbal.symm, ⟨ea, eb⟩, ⟨ga, gb⟩, fun D h1 h2 => ⟨fun _ z => h1 _ (qa2 (by omega) z), fun _ => h2⟩⟩
            | j + 2, hd => simp at hd
          have lD := sh2.len
          refine tg_name (wp_seq (wp_asgG (ev_eq (ev_if (et_B (ev_var rfl)) (fun _ => ev_tup (ea_cons (ev_var rfl) (ea_cons (ev_var rfl) ea_nil))) (fun _ => ev_tup (ea_cons (ev_var rfl) (ea_cons (ev_var rfl) ea_nil)))) hif1) fun d e => ?_))
          subst e
          refine tg_tup rfl (bts_name (bts_name (bts_nil ?_)))
          have od : ∀ v : Nat, aget (sharesL f c do2) ((v : Nat) : Int) = if v ∈ do2 then some (pI (share f c v)) else none := fun v => aget_map do2 v
          refine wp_ifD (et_eq (et_and (et_eqI (ev_var rfl) (ev_var rfl)) fun _ => et_test (ev_dnotin (ev_var rfl) (.inl ⟨_, _, rfl, rfl, rfl⟩))) (d' := decide (nr = here) && !decide (th ∈ do2)) ?_) (fun e => ?_) (fun e => wp_next ?_)
          · rw [natEq, od]
            congr 2
            by_cases z : th ∈ do2 <;> simp [z]
          · rw [Bool.and_eq_true, decide_eq_true_eq, Bool.not_eq_true', decide_eq_false_iff_not] at e
            obtain ⟨rfl, nt⟩ := e
            have hlt := sh2.lt _ hm2
            have tlt : th < f.n := near_lt ok hth
            have hcon2 : Conn f b nr := hcon
            have tcon : Conn f nr th := .step .refl hth
            have bd := share_bd G hlt
            have st := share_step G hlt tlt tcon hbal (by omega) (by omega)
            obtain ⟨ds, hds, dl⟩ := ln2.get nr hm2
            have lk2l := ln2.len
            refine wp_seq (wp_set (ev_eq (ev_if (et_B (ev_var rfl)) (fun _ => ev_tup (ea_cons (ev_var rfl) (ea_cons (ev_var rfl) ea_nil))) (fun _ => ev_tup (ea_cons (ev_var rfl) (ea_cons (ev_var rfl) ea_nil)))) hif2) ?_)
            have hm9 : (share f c nr).2 * (rb : Int) < 1073741824 := by
              have : (share f c nr).2 * (rb : Int) ≤ 4 * 8 := Int.mul_le_mul bd.2.2.2 (by omega) (by omega) (by omega)
              omega
            have hm0 : 0 < (share f c nr).2 * (rb : Int) := Int.mul_pos bd.2.2.1 (by omega)
            refine wp_seq (wp_asgG (ev_callA ((share f c nr, (((ra : Nat) : Int), ((rb : Nat) : Int))) : (Int × Int) × (Int × Int)) (ea_cons (ev_dget (ev_var rfl) (.inl ⟨_, _, rfl, rfl, by rw [od, if_pos hm2]⟩)) (ea_cons (ev_var rfl) ea_nil)) rfl (by exact ⟨⟨by dsimp only; omega, by dsimp only; omega⟩, ⟨by dsimp only; omega, by dsimp only; omega⟩, hm0, hm9⟩)) fun d e => ?_)
            subst e
            rw [st]
            refine tg_sub (i := 1) rfl rfl rfl (ev_var rfl) (sd_dk (by rw [List.length_map]; omega)) ?_
            rw [sharesL_put nt]
            refine wp_seq (wp_asgG (ev_op (ev_dget (ev_var rfl) (.inl ⟨lk2, _, rfl, rfl, hds.symm⟩)) (ev_tup (ea_cons (ev_tup (ea_cons (ev_var rfl) (ea_cons (ev_var rfl) ea_nil))) ea_nil)) (opd_catT (by show ds.length + 1 ≤ 100000; omega))) fun d e => ?_)
            subst e
            refine tg_sub (i := 2) rfl rfl rfl (ev_var rfl) (sd_dk (by omega)) ?_
            refine wp_append rfl (ev_var rfl) (by rw [List.length_map]; omega) fun d e => ?_
            subst e
            have sh3 := sh2.more tlt (hcon2.trans tcon) nt
            have lD3 := sh3.len
            have el : (do2 ++ [th]).length = do2.length + 1 := by simp
            refine ⟨do2 ++ [th], ro2 ++ [th], _, _, _, _, _, _, set_ml (natsD_app ro2 th) rfl, sh3, List.mem_append_left _ hm2, ln2.put (by rw [List.length_append]; exact Nat.add_le_add_right dl 1), ?_, fun j q hj hq => ?_, hq _ (fun v hv => List.mem_append_left _ hv) (fun _ => by simp)⟩
            · rw [el, List.length_append, List.length_singleton]
              omega
            · exact ⟨fun z => List.mem_append_left _ ((pr2 j q hj hq).1 z), fun z => List.mem_append_left _ ((pr2 j q hj hq).2 z)⟩
          · refine ⟨do2, ro2, lk2, _, _, _, _, _, rfl, sh2, hm2, ln2, hk2, pr2, hq do2 (fun v hv => hv) fun z => ?_⟩
            rw [Bool.and_eq_false_iff, decide_eq_false_iff_not, Bool.not_eq_false', decide_eq_true_eq] at e
            exact e.elim (fun y => absurd z y) fun y => y
        · subst e
          refine ⟨do2, ro2, lk2, _, _, _, _, _, _, _, _, _, _, _, rfl, sh2, hm2, ln2, hk2, fun j' q hj hq => ?_⟩
          by_cases z : j' = i
          · subst z
            rw [hp] at hq
            cases hq
            exact ⟨qa2 (by show 0 < 2; omega), qb2 (by show 1 < 2; omega)⟩
          · exact pr2 j' q (by omega) hq
      · subst e
        rw [List.length_map] at pr1
        refine ⟨_, hk1, do1, lk1, ro1, _, _, _, _, _, _, _, _, _, _, _, _, rfl, ⟨sh1.nd, sh1.lt, sh1.mem, sh1.old, sh1.box, sh1.rs, fun u hu hc h1 _ x hx => ?_⟩, ln1, rfl, by omega⟩
        by_cases z : u = here
        · subst z
          obtain ⟨p, hp, hpp⟩ := near_mem.mp hx
          obtain ⟨j, hj, ej⟩ := List.mem_iff_getElem.mp hp
          have := pr1 j p hj (by rw [List.getElem?_eq_getElem hj, ej])
          rcases hpp with ⟨a, b⟩ | ⟨a, b⟩
          · rw [← b]; exact this.1 a
          · rw [← a]; exact this.2 b
        · exact sh1.cl u hu hc h1 (fun y => z (Option.some.inj y)) x hx
    · have hr : rows = [] := by simpa using e.symm
      subst hr
      refine ⟨done, lk, _, _, _, _, _, _, _, _, _, _, _, _, _, rfl, ln, sh.nd, sh.lt, fun v hv => ?_⟩
      rw [List.take_add_one, hb]
      constructor
      · intro z
        rcases sh.mem v z with y | y
        · obtain ⟨b', hb', hc⟩ := (me0 v hv).mp y
          exact ⟨b', List.mem_append_left _ hb', hc⟩
        · exact ⟨b, by simp, y⟩
      · rintro ⟨b', hb', hc⟩
        rcases List.mem_append.mp hb' with z | z
        · exact sh.old v ((me0 v hv).mpr ⟨b', z, hc⟩)
        · have e : b' = b := by simpa using z
          subst e
          have hcl : ∀ u x, (u ∈ done ∧ Conn f b' u) → x ∈ nearL f u → (x ∈ done ∧ Conn f b' x) := fun u x hu hx => ⟨sh.cl u hu.1 hu.2 (by simp) (by simp) x hx, .step hu.2 hx⟩
          exact (hc.closed (S := fun u => u ∈ done ∧ Conn f b' u) hcl ⟨sh.box, .refl⟩).1
  · subst e
    rw [List.length_map, List.take_length] at me0
    refine wp_freeze (i := 1) rfl rfl (wp_freeze (i := 2) rfl rfl (wp_retD (ev_tup (ea_cons (ev_var rfl) (ea_cons (ev_var rfl) ea_nil))) ⟨done0, lk0, rfl, fun v hv => ?_⟩))
    refine (me0 v hv).mpr ⟨root f v, ?_, (root_mem hv).2.symm⟩
    unfold heads
    rw [List.mem_filter, List.mem_range, decide_eq_true_eq]
    exact ⟨(root_mem hv).1, head_root hv⟩
end
end Dl
set_option Elab.async false
set_option linter.all false
set_option maxRecDepth 100000
set_option maxHeartbeats 1000000
/-! Walks 9: the round. -/
namespace Dl
open PySem PySem.Spec PyProof.Rows L2 C8 Rf
/-! ### least counts of a part -/
theorem fin_lcm0 : ((List.range 5).all fun R => (List.range 5).all fun G => (List.range 5).all fun u => R == 0 || G == 0 || u == 0 || R % G != 0 ||
    (((R / G) * (R / Nat.gcd u R)) / Nat.gcd (R / G) (R / Nat.gcd u R) == R / Nat.gcd G u && R % Nat.gcd G u == 0 && decide (1 ≤ Nat.gcd G u) && decide (Nat.gcd G u < 5))) = true := by decide +kernel
theorem fin_lcm {R G u : Nat} (h1 : R < 5) (h2 : G < 5) (h3 : u < 5) (p1 : 1 ≤ R) (p2 : 1 ≤ G) (p3 : 1 ≤ u) (hm : R % G = 0) : ((R / G) * (R / Nat.gcd u R)) / Nat.gcd (R / G) (R / Nat.gcd u R) = R / Nat.gcd G u ∧ R % Nat.gcd G u = 0 ∧ 1 ≤ Nat.gcd G u ∧ Nat.gcd G u < 5 := by
  have h := List.all_eq_true.mp (List.all_eq_true.mp (List.all_eq_true.mp fin_lcm0 R (List.mem_range.mpr h1)) G (List.mem_range.mpr h2)) u (List.mem_range.mpr h3)
  simp only [Bool.or_eq_true, Bool.and_eq_true, beq_iff_eq, bne_iff_ne, decide_eq_true_eq] at h
  rcases h with (((h | h) | h) | h) | h
  · omega
  · omega
  · omega
  · exact absurd hm h
  · exact ⟨h.1.1.1, h.1.1.2, h.1.2, h.2⟩
theorem fin_den0 : ((List.range 5).all fun R => (List.range 5).all fun G => (List.range 5).all fun u => R == 0 || G == 0 || u == 0 || R % G != 0 || u % G != 0 ||
    ((R / G) * (u / Nat.gcd u R) / (R / Nat.gcd u R) == u / G)) = true := by decide +kernel
theorem fin_den {R G u : Nat} (h1 : R < 5) (h2 : G < 5) (h3 : u < 5) (p1 : 1 ≤ R) (p2 : 1 ≤ G) (p3 : 1 ≤ u) (hm : R % G = 0) (hm2 : u % G = 0) : (R / G) * (u / Nat.gcd u R) / (R / Nat.gcd u R) = u / G := by
  have h := List.all_eq_true.mp (List.all_eq_true.mp (List.all_eq_true.mp fin_den0 R (List.mem_range.mpr h1)) G (List.mem_range.mpr h2)) u (List.mem_range.mpr h3)
  simp only [Bool.or_eq_true, Bool.and_eq_true, beq_iff_eq, bne_iff_ne, decide_eq_true_eq] at h
  rcases h with ((((h | h) | h) | h) | h) | h
  · omega
  · omega
  · omega
  · exact absurd hm h
  · exact absurd hm2 h
  · exact h
noncomputable def gcf (c : Nat → Nat) (R : Nat) (l : List Nat) : Nat := l.foldl (fun g u => Nat.gcd g (c u)) R
theorem gcf_snoc (c : Nat → Nat) (R : Nat) (l : List Nat) (u : Nat) : gcf c R (l ++ [u]) = Nat.gcd (gcf c R l) (c u) := by
  unfold gcf
  rw [List.foldl_append]
  rfl
theorem gcf_dvd {c : Nat → Nat} {l : List Nat} : ∀ {R : Nat}, gcf c R l ∣ R ∧ ∀ u ∈ l, gcf c R l ∣ c u := by
  induction l with
  | nil => intro R; exact ⟨Nat.dvd_refl _, fun u hu => (nomatch hu)⟩
  | cons a l ih =>
    intro R
    obtain ⟨h1, h2⟩ := ih (R := Nat.gcd R (c a))
    refine ⟨Nat.dvd_trans h1 (Nat.gcd_dvd_left ..), fun u hu => ?_⟩
    rcases List.mem_cons.mp hu with e | hu
    · rw [e]; exact Nat.dvd_trans h1 (Nat.gcd_dvd_right ..)
    · exact h2 u hu
theorem dvd_gcf {c : Nat → Nat} {d : Nat} {l : List Nat} : ∀ {R : Nat}, d ∣ R → (∀ u ∈ l, d ∣ c u) → d ∣ gcf c R l := by
  induction l with
  | nil => intro R h _; exact h
  | cons a l ih => intro R h h2; exact ih (Nat.dvd_gcd h (h2 a List.mem_cons_self)) fun u hu => h2 u (List.mem_cons_of_mem _ hu)
noncomputable def grp (f : Flow) (c : Nat → Nat) (v : Nat) : Nat := gcf c (c (root f v)) (comp f v)
/-- the round -/
noncomputable def rnd (f : Flow) (c : Nat → Nat) (v : Nat) : Nat := c v / grp f c v
noncomputable def rndL (f : Flow) (c : Nat → Nat) : List Nat := (List.range f.n).map (rnd f c)
theorem rndL_len (f : Flow) (c : Nat → Nat) : (rndL f c).length = f.n := by simp [rndL]
theorem rndL_get {f : Flow} {c : Nat → Nat} {v : Nat} (h : v < f.n) : (rndL f c)[v]? = some (rnd f c v) := by
  unfold rndL
  rw [List.getElem?_map, List.getElem?_range h]
  rfl
section
variable {f : Flow} {c : Nat → Nat} (G : Good f c)
include G
theorem grp_ok {v : Nat} (h : v < f.n) : 1 ≤ grp f c v ∧ grp f c v ∣ c v ∧ grp f c v ∣ c (root f v) := by
  obtain ⟨h1, h2⟩ := gcf_dvd (c := c) (R := c (root f v)) (l := comp f v)
  have hr := (G.pos _ (root_mem h).1).1
  exact ⟨Nat.pos_of_dvd_of_pos h1 (by omega), h2 v (comp_mem.mpr ⟨h, .refl⟩), h1⟩
theorem grp_same {u v : Nat} (h : Conn f u v) : grp f c u = grp f c v := by unfold grp; rw [root_same h, comp_same h]
theorem rnd_bd {v : Nat} (h : v < f.n) : 1 ≤ rnd f c v ∧ rnd f c v ≤ 4 := by
  obtain ⟨h1, h2, _⟩ := grp_ok G h
  have hp := G.pos v h
  unfold rnd
  exact ⟨Nat.div_pos (Nat.le_of_dvd (by omega) h2) h1, Nat.le_trans (Nat.div_le_self ..) hp.2⟩
theorem rnd_bal {p : Pipe} (hp : p ∈ f.ps) : rnd f c p.one * p.give = rnd f c p.other * p.eat := by
  have e := G.ends p hp
  have hc : Conn f p.one p.other := .step .refl (near_mem.mpr ⟨p, hp, .inl ⟨rfl, rfl⟩⟩)
  obtain ⟨g1, g2, _⟩ := grp_ok G e.1
  obtain ⟨_, g3, _⟩ := grp_ok G e.2
  have es := grp_same G hc
  have hb := G.bal p hp
  unfold rnd
  rw [← es] at g3 ⊢
  generalize grp f c p.one = g at g1 g2 g3
  refine Nat.eq_of_mul_eq_mul_left g1 ?_
  rw [← Nat.mul_assoc, ← Nat.mul_assoc, Nat.mul_div_cancel' g2, Nat.mul_div_cancel' g3]
  exact hb
theorem share_nat {v : Nat} (h : v < f.n) : share f c v = (((c v / Nat.gcd (c v) (c (root f v)) : Nat) : Int), ((c (root f v) / Nat.gcd (c v) (c (root f v)) : Nat) : Int)) := by
  unfold share rd
  rw [Int.gcd_natCast_natCast, Int.natCast_ediv, Int.natCast_ediv]
end
theorem sum_le4 {l : List Nat} (h : ∀ x ∈ l, x ≤ 4) : l.sum ≤ 4 * l.length := by
  induction l with
  | nil => exact Nat.le_refl _
  | cons a l ih =>
    have := ih fun x hx => h x (List.mem_cons_of_mem _ hx)
    have := h a List.mem_cons_self
    rw [List.sum_cons, List.length_cons]
    omega
theorem rndL_sum {f : Flow} {c : Nat → Nat} (G : Good f c) : (rndL f c).sum ≤ 4 * f.n := by
  have := sum_le4 (l := rndL f c) fun x hx => by
    unfold rndL at hx
    obtain ⟨v, hv, e⟩ := List.mem_map.mp hx
    rw [← e]
    exact (rnd_bd G (List.mem_range.mp hv)).2
  rwa [rndL_len] at this
theorem eqv_pI (p q : Int × Int) : PyData.eqv (pI p) (pI q) = decide (p = q) := by
  obtain ⟨a, b⟩ := p
  obtain ⟨a', b'⟩ := q
  show (PyData.eqv (.int a) (.int a') && (PyData.eqv (.int b) (.int b') && true)) = _
  rw [eqv_int, eqv_int, Bool.and_true]
  by_cases h : a = a' <;> by_cases h' : b = b' <;> simp [h, h']
section
variable {P : Program} {w : World} {K : PySem.W.Frag} {mg : PySem.Str → Option Value} {base : Heap}
theorem sc_bad_pipe : FnScope ["flow", "shares", "index", "one", "other", "give", "eat", "start"] ["flow", "shares"] (defScope s_bad_pipe) := ⟨rfl, rfl, rfl, by decide +kernel, rfl, by decide +kernel, by decide +kernel⟩
noncomputable abbrev spBad : Sp := spA (fun x : Flow × (Nat → Nat) × List Nat => [flowD x.1, adD (sharesL x.1 x.2.1 x.2.2)]) (fun x => Good x.1 x.2.1 ∧ ∀ v, v < x.1.n → v ∈ x.2.2) (fun _ r => r = .none)
theorem ok_bad_pipe (T : Tx mg) (F : Df K mg "bad_pipe" s_bad_pipe) (c_times : Cal P w K mg base 3 "times" spTim []) : Cal P w K mg base 4 "bad_pipe" spBad [] := by
  refine calA _ _ _ F sc_bad_pipe rfl (by decide) (fun _ => rfl) (fun _ _ _ _ _ _ us hl => match us, hl with | [_, _], _ => rfl) fun f cdv A outer s H E hr => ⟨_,
    (pss_cons (ps_for PassesOwn.never rfl (pi_enumT (by rfl) T.m_enumerate (pa_cons (pe_ix ix_seq (pv 0) pe_int (fun _ _ => rfl)) pa_nil)) (pg_tup rfl (pgs_cons (pg_name (i := 2) sc_bad_pipe.nd rfl (.inl rfl)) (pgs_cons (pg_tup rfl (pgs_cons (pg_name (i := 3) sc_bad_pipe.nd rfl (.inl rfl)) (pgs_cons (pg_name (i := 4) sc_bad_pipe.nd rfl (.inl rfl)) (pgs_cons (pg_name (i := 5) sc_bad_pipe.nd rfl (.inl rfl)) (pgs_cons (pg_name (i := 6) sc_bad_pipe.nd rfl (.inl rfl)) (pgs_cons (pg_name (i := 7) sc_bad_pipe.nd rfl (.inl rfl)) pgs_nil)))))) pgs_nil))) (pss_one (ps_if (pt_cmpR (op_neD (hu64 hr)) (pe_c c_times hr (by decide) (by rfl) (pa_cons (pe_dget (hu_of hr) (pv 1) (pv 3) (fun _ _ => rfl)) (pa_cons (pe_tup (pa_cons (pv 5) (pa_cons (pv 6) pa_nil))) pa_nil))) (pe_dget (hu_of hr) (pv 1) (pv 4) (fun _ _ => rfl)) (nomark _)) (pss_one (ps_ret (pv 2))) pss_nil)))
      (pss_one (ps_ret pe_non))), fun F0 x hx => ?_⟩
  obtain ⟨f, c, done⟩ := x
  obtain ⟨G, hd⟩ := hx
  simp only at G hd
  show Wp _ _ ([.im (flowD f), .im (adD (sharesL f c done))] ++ List.replicate _ .un) _
  have od : ∀ v : Nat, v < f.n → aget (sharesL f c done) ((v : Nat) : Int) = some (pI (share f c v)) := fun v hv => by rw [aget_map, if_pos (hd v hv)]
  refine wp_seq (wp_forET (fun i Γ => ∃ a b c' d e g, Γ = [.im (flowD f), .im (adD (sharesL f c done)), a, b, c', d, e, g]) (ea_cons (ev_op (ev_var rfl) ev_int (opd_ixT rfl)) ea_nil) ⟨_, _, _, _, _, _, rfl⟩ (fun i d Γ' hd ⟨a, b, c', d', e, g, eΓ⟩ => ?_) (fun Γ' ⟨a, b, c', d', e, g, eΓ⟩ => ?_))
  · subst eΓ
    obtain ⟨p, hp, rfl⟩ := map_get hd
    have pm := List.mem_of_getElem? hp
    have pe := G.ends p pm
    have pr := G.rate p pm
    have bd := share_bd G pe.1
    have st := share_step G pe.1 pe.2 (.step .refl (near_mem.mpr ⟨p, pm, .inl ⟨rfl, rfl⟩⟩)) (G.bal p pm) (by omega) (by omega)
    have hm9 : (share f c p.one).2 * (p.eat : Int) < 1073741824 := by
      have : (share f c p.one).2 * (p.eat : Int) ≤ 4 * 8 := Int.mul_le_mul bd.2.2.2 (by omega) (by omega) (by omega)
      omega
    have hm0 : 0 < (share f c p.one).2 * (p.eat : Int) := Int.mul_pos bd.2.2.1 (by omega)
    refine tg_tup rfl (bts_name (bts_tup (es := []) rfl (bts_name (bts_name (bts_name (bts_name (bts_name (bts_nil (bts_nil ?_)))))))))
    refine wp_noE (et_test (ev_eq (ev_op (ev_eq (ev_callA (((share f c p.one), (((p.give : Nat) : Int), ((p.eat : Nat) : Int))) : (Int × Int) × (Int × Int)) (ea_cons (ev_dget (ev_var rfl) (.inr (.inr ⟨_, _, rfl, rfl, (od p.one pe.1).symm⟩))) (ea_cons (ev_tup (ea_cons (ev_var rfl) (ea_cons (ev_var rfl) ea_nil))) ea_nil)) rfl (by exact ⟨⟨by dsimp only; omega, by dsimp only; omega⟩, ⟨by dsimp only; omega, by dsimp only; omega⟩, hm0, hm9⟩)) (d' := pI (share f c p.other)) (by rw [st])) (ev_dget (ev_var rfl) (.inr (.inr ⟨_, _, rfl, rfl, (od p.other pe.2).symm⟩))) (opd_ne (n := 1) (m := 1) rfl rfl (by decide) (by decide))) (congrArg (fun z => PyData.bool (!z)) (eqv_pI _ _)))) (by simp) (wp_next ⟨_, _, _, _, _, _, rfl⟩)
  · subst eΓ
    exact wp_retD ev_non rfl
end
end Dl
set_option Elab.async false
set_option linter.all false
set_option maxRecDepth 100000
set_option maxHeartbeats 1000000
/-! Walks 10: repetitions. -/
namespace Dl
open PySem PySem.Spec PyProof.Rows L2 C8 Rf
theorem fdiv_nat (a b : Nat) : Int.fdiv (a : Int) (b : Int) = ((a / b : Nat) : Int) := by rw [Int.fdiv_eq_ediv_of_nonneg _ (by omega), Int.natCast_ediv]
theorem gcd_nat (a b : Nat) : Int.gcd (a : Int) (b : Int) = Nat.gcd a b := Int.gcd_natCast_natCast a b
noncomputable def FL (f : Flow) (c : Nat → Nat) (S : List Nat) : List Nat := (List.range f.n).map fun v => if v ∈ S then rnd f c v else 0
theorem FL_len (f : Flow) (c : Nat → Nat) (S : List Nat) : (FL f c S).length = f.n := by simp [FL]
theorem FL_get {f : Flow} {c : Nat → Nat} {S : List Nat} {v : Nat} (h : v < f.n) : (FL f c S)[v]? = some (if v ∈ S then rnd f c v else 0) := by
  unfold FL
  rw [List.getElem?_map, List.getElem?_range h]
  rfl
theorem FL_set {f : Flow} {c : Nat → Nat} {S : List Nat} {v : Nat} (h : v < f.n) : (FL f c S).set v (rnd f c v) = FL f c (S ++ [v]) := by
  refine List.ext_getElem? fun i => ?_
  by_cases hi : i < f.n
  · rw [List.getElem?_set, FL_get hi (S := S ++ [v])]
    by_cases e : v = i
    · subst e
      rw [if_pos rfl, if_pos (by rw [FL_len]; exact h)]
      simp
    · rw [if_neg e, FL_get hi]
      have : ¬ i = v := fun z => e z.symm
      simp [this]
  · rw [List.getElem?_eq_none (by rw [List.length_set, FL_len]; omega), List.getElem?_eq_none (by rw [FL_len]; omega)]
theorem FL_nil (f : Flow) (c : Nat → Nat) : cnt f.n [] = FL f c [] := by
  unfold cnt FL
  exact List.map_congr_left fun v _ => by simp
theorem FL_all {f : Flow} {c : Nat → Nat} {S : List Nat} (h : ∀ v, v < f.n → v ∈ S) : FL f c S = rndL f c := by
  unfold FL rndL
  exact List.map_congr_left fun v hv => by rw [if_pos (h v (List.mem_range.mp hv))]
section
variable {f : Flow} {c : Nat → Nat} (G : Good f c)
include G
/-- one more box in a part's lcm -/
theorem low_step {b u : Nat} {l : List Nat} (hb : b < f.n) (hh : isHead f b) (hl : ∀ v ∈ l, v < f.n) (hu : u < f.n) (hc : Conn f b u) :
    ∃ D N : Nat, share f c u = (((N : Nat) : Int), ((D : Nat) : Int)) ∧ N = c u / Nat.gcd (c u) (c b) ∧ D = c b / Nat.gcd (c u) (c b) ∧ 1 ≤ D ∧ D ≤ 4 ∧ N ≤ 4 ∧ c b / gcf c (c b) l ≤ 4 ∧ 1 ≤ c b / gcf c (c b) l ∧ 1 ≤ gcf c (c b) l ∧ gcf c (c b) l < 5 ∧ c b % gcf c (c b) l = 0 ∧
      (c b / gcf c (c b) l) * D / Nat.gcd (c b / gcf c (c b) l) D = c b / gcf c (c b) (l ++ [u]) := by
  have er : root f u = b := by rw [← root_same hc, root_head hh]
  have es := share_nat G hu
  have bd := share_bd G hu
  rw [er] at es
  have p1 := G.pos b hb
  have p2 := G.pos u hu
  obtain ⟨g1, _⟩ := gcf_dvd (c := c) (R := c b) (l := l)
  have g2 : 1 ≤ gcf c (c b) l := Nat.pos_of_dvd_of_pos g1 (by omega)
  have g3 : gcf c (c b) l ≤ c b := Nat.le_of_dvd (by omega) g1
  have g4 : c b % gcf c (c b) l = 0 := Nat.mod_eq_zero_of_dvd g1
  obtain ⟨h1, h2, h3, h4⟩ := fin_lcm (R := c b) (G := gcf c (c b) l) (u := c u) (by omega) (by omega) (by omega) p1.1 g2 p2.1 g4
  rw [es] at bd
  refine ⟨_, _, es, rfl, rfl, by omega, by omega, by omega, Nat.le_trans (Nat.div_le_self ..) p1.2, Nat.div_pos g3 g2, g2, by omega, g4, ?_⟩
  rw [gcf_snoc]
  exact h1
theorem grp_head {b u : Nat} (hh : isHead f b) (hc : Conn f b u) : grp f c u = gcf c (c b) (comp f b) := by
  rw [← grp_same G hc]
  unfold grp
  rw [root_head hh]
theorem rnd_low {b u : Nat} (hb : b < f.n) (hh : isHead f b) (hu : u < f.n) (hc : Conn f b u) :
    (c b / gcf c (c b) (comp f b)) * (c u / Nat.gcd (c u) (c b)) / (c b / Nat.gcd (c u) (c b)) = rnd f c u := by
  obtain ⟨g1, g2⟩ := gcf_dvd (c := c) (R := c b) (l := comp f b)
  have p1 := G.pos b hb
  have p2 := G.pos u hu
  have g3 : 1 ≤ gcf c (c b) (comp f b) := Nat.pos_of_dvd_of_pos g1 (by omega)
  have g4 := Nat.le_of_dvd (by omega) g1
  have g5 := g2 u (comp_mem.mpr ⟨hu, hc⟩)
  unfold rnd
  rw [grp_head G hh hc]
  exact fin_den (by omega) (by omega) (by omega) p1.1 g3 p2.1 (Nat.mod_eq_zero_of_dvd g1) (Nat.mod_eq_zero_of_dvd g5)
end
theorem mem_take_iff {l : List Nat} {i b x : Nat} (hb : l[i]? = some b) : x ∈ l.take (i + 1) ↔ x ∈ l.take i ∨ x = b := by
  rw [List.take_add_one, hb]
  simp
section
variable {P : Program} {w : World} {K : PySem.W.Frag} {mg : PySem.Str → Option Value} {base : Heap}
noncomputable abbrev spReps : Sp := spA eFC (fun x => Good x.1 x.2) (fun x r => r = .list (natsD (rndL x.1 x.2)))
theorem sc_repetitions_in : FnScope ["flow", "shares", "lines", "found", "part", "below", "box"] ["flow"] (defScope s_repetitions_in) := ⟨rfl, rfl, rfl, by decide +kernel, rfl, by decide +kernel, by decide +kernel⟩
theorem sm_nat {a : Nat} (h : a ≤ 1000) : Sm (a : Int) := ⟨by omega, by omega⟩
theorem ok_repetitions_in (T : Tx mg) (F : Df K mg "repetitions_in" s_repetitions_in) (c_bad_pipe : Cal P w K mg base 4 "bad_pipe" spBad []) (c_gcd : Cal P w K mg base 1 "gcd" spGcd []) (c_parts_in : Cal P w K mg base 2 "parts_in" spParts []) (c_shares_in : Cal P w K mg base 4 "shares_in" spShares []) : Cal P w K mg base 5 "repetitions_in" spReps [] := by
  refine calA _ _ _ F sc_repetitions_in rfl (by decide) (fun _ => rfl) (fun _ _ _ _ _ _ us hl => match us, hl with | [_], _ => rfl) fun f cdv A outer s H E hr => ⟨_,
    (pss_cons (ps_asg (pe_c c_shares_in hr (by decide) (by rfl) (pa_cons (pv 0) pa_nil)) (pg_tup rfl (pgs_cons (pg_name (i := 1) sc_repetitions_in.nd rfl (.inl rfl)) (pgs_cons (pg_name (i := 2) sc_repetitions_in.nd rfl (.inl rfl)) pgs_nil))))
      (pss_cons (ps_if (pt_cmpR op_notN (pe_c c_bad_pipe hr (by decide) (by rfl) (pa_cons (pv 0) (pa_cons (pv 1) pa_nil))) pe_non (nomark _)) pss_never pss_nil)
      (pss_cons (ps_set (i := 3) sc_repetitions_in.nd rfl (.inl rfl) (pe_op op_rep (pe_lst (pa_cons pe_int pa_nil)) (pe_ix ix_seq (pv 0) pe_int (fun _ _ => rfl))))
      (pss_cons (ps_for PassesOwn.never rfl (pi_list (pe_c c_parts_in hr (by decide) (by rfl) (pa_cons (pv 0) pa_nil))) (pg_name (i := 4) sc_repetitions_in.nd rfl (.inl rfl)) (pss_cons (ps_set (i := 5) sc_repetitions_in.nd rfl (.inl rfl) pe_int)
      (pss_cons (ps_for PassesOwn.never rfl (pi_tup (pv 4)) (pg_name (i := 6) sc_repetitions_in.nd rfl (.inl rfl)) (pss_one (ps_set (i := 5) sc_repetitions_in.nd rfl (.inl rfl) (pe_op op_fdivN (pe_op op_mul (pv 5) (pe_ix ix_seq (pe_dget (hu_of hr) (pv 1) (pv 6) (fun _ _ => rfl)) pe_int (fun _ _ => rfl))) (pe_c c_gcd hr (by decide) (by rfl) (pa_cons (pv 5) (pa_cons (pe_ix ix_seq (pe_dget (hu_of hr) (pv 1) (pv 6) (fun _ _ => rfl)) pe_int (fun _ _ => rfl)) pa_nil)))))))
      (pss_one (ps_for PassesOwn.never rfl (pi_tup (pv 4)) (pg_name (i := 6) sc_repetitions_in.nd rfl (.inl rfl)) (pss_one (ps_asg (pe_op op_fdivN (pe_op op_mul (pv 5) (pe_ix ix_seq (pe_dget (hu_of hr) (pv 1) (pv 6) (fun _ _ => rfl)) pe_int (fun _ _ => rfl))) (pe_ix ix_seq (pe_dget (hu_of hr) (pv 1) (pv 6) (fun _ _ => rfl)) pe_int (fun _ _ => rfl))) (pg_sub (pv 3) (pv 6) (set_list)))))))))
      (pss_one (ps_ret (pv 3))))))), fun F0 x hx => ?_⟩
  obtain ⟨f, c⟩ := x
  have G : Good f c := hx
  clear hx
  have h1 := G.n
  have h2 := G.ps
  show Wp _ _ ([.im (flowD f)] ++ List.replicate _ .un) _
  refine wp_seq (wp_asgG (ev_callA (f, c) (ea_cons (ev_var rfl) ea_nil) rfl G) fun d ⟨done, lk, e, hd⟩ => ?_)
  subst e
  simp only at hd
  refine tg_tup rfl (bts_name (bts_name (bts_nil ?_)))
  show Wp _ _ [.im (flowD f), .im (adD (sharesL f c done)), .im (adD lk), .un, .un, .un, .un] _
  have od : ∀ v : Nat, v < f.n → aget (sharesL f c done) ((v : Nat) : Int) = some (pI (share f c v)) := fun v hv => by rw [aget_map, if_pos (hd v hv)]
  refine wp_seq (wp_noE (et_test (ev_op (ev_callA (f, c, done) (ea_cons (ev_var rfl) (ea_cons (ev_var rfl) ea_nil)) rfl (by exact ⟨G, hd⟩)) ev_non (opd_notN rfl))) rfl (wp_next ?_))
  refine wp_seq (wp_setS (s := .ml (natsD (FL f c []))) (evs_mono (evs_rep (ev_lst (ea_cons ev_int ea_nil)) (ev_op (ev_var rfl) ev_int (opd_ixT rfl)) (by omega) (by simp; omega)) fun s e => by rw [e, zeros, FL_nil f c]) ?_)
  have hsrt : (heads f f.n).Pairwise (· < ·) := List.Pairwise.filter _ List.pairwise_lt_range
  have hmem : ∀ b ∈ heads f f.n, b < f.n ∧ isHead f b := fun b hb => by
    unfold heads at hb
    rw [List.mem_filter, List.mem_range, decide_eq_true_eq] at hb
    exact hb
  refine wp_seq (wp_forL (Pl := fun _ => True) (ds := partsD f (heads f f.n)) (fun i Γ => ∃ S s4 s5 s6, Γ = [.im (flowD f), .im (adD (sharesL f c done)), .im (adD lk), .ml (natsD (FL f c S)), s4, s5, s6] ∧ (∀ v, v < f.n → (∃ b ∈ (heads f f.n).take i, Conn f b v) → v ∈ S))
    (ev_callA f (ea_cons (ev_var rfl) ea_nil) rfl G.toShape) ⟨[], _, _, _, rfl, fun v _ ⟨b, hb, _⟩ => by rw [List.take_zero] at hb; cases hb⟩ (fun i d Γ' hd ⟨S, s4, s5, s6, e, me⟩ => ?_) (fun Γ' ⟨S, s4, s5, s6, e, me⟩ => ?_))
  · subst e
    obtain ⟨b, hb, rfl⟩ := map_get hd
    obtain ⟨bn, bh⟩ := hmem b (List.mem_of_getElem? hb)
    have cl := comp_len f b
    have cm : ∀ {j u : Nat}, (comp f b)[j]? = some u → u < f.n ∧ Conn f b u := fun h => comp_mem.mp (List.mem_of_getElem? h)
    refine tg_name (wp_seq (wp_set ev_int ?_))
    refine wp_seq (wp_forT (ds := natsD (comp f b)) (fun j Γ => ∃ s6, Γ = [.im (flowD f), .im (adD (sharesL f c done)), .im (adD lk), .ml (natsD (FL f c S)), .im (.tuple (natsD (comp f b))), .im (.int ((c b / gcf c (c b) ((comp f b).take j) : Nat) : Nat)), s6]) (ev_var rfl) ⟨s6, ?_⟩ (fun j d Γ' hd ⟨s6, e⟩ => ?_) (fun Γ' ⟨s6, e⟩ => ?_))
    · have : c b / gcf c (c b) ((comp f b).take 0) = 1 := Nat.div_self (G.pos b bn).1
      rw [this]
      rfl
    · subst e
      obtain ⟨u, hu, rfl⟩ := map_get hd
      obtain ⟨un, uc⟩ := cm hu
      obtain ⟨D, N, es, eN, eD, q1, q2, q3, q4, q5, q6, q7, q8, eq⟩ := low_step G bn bh (l := (comp f b).take j) (fun v hv => (comp_mem.mp (List.mem_of_mem_take hv)).1) un uc
      have et : (comp f b).take (j + 1) = (comp f b).take j ++ [u] := by rw [List.take_add_one, hu]; rfl
      rw [← et] at eq
      generalize c b / gcf c (c b) ((comp f b).take j) = L at q4 q5 eq
      have od' := od u un
      rw [es] at od'
      have ed : ∀ {B : Bs} {Γ : List Sk}, Γ[1]? = some (.im (adD (sharesL f c done))) → Γ[6]? = some (.im (.int (u : Nat))) → Ev B (tOp (rIx K) (tDGet (tVar 1) (tVar 6)) (tC (.int 1))) Γ (.int (D : Nat)) := fun h h' => ev_op (ev_dget (ev_var h') (.inr (.inr ⟨_, _, h, rfl, od'.symm⟩))) ev_int (opd_ixT rfl)
      have hg : Nat.gcd L D ≤ 4 := Nat.le_trans (Nat.gcd_le_left _ (by omega)) q4
      have hg1 : 1 ≤ Nat.gcd L D := Nat.gcd_pos_of_pos_left _ (by omega)
      refine tg_name (wp_set (d := .int ((c b / gcf c (c b) ((comp f b).take (j + 1)) : Nat) : Nat)) (ev_eq (ev_op (ev_op (ev_var rfl) (ed rfl rfl) (opd_mul (sm_nat (by omega)).mul)) (ev_callA (((L : Nat) : Int), ((D : Nat) : Int)) (ea_cons (ev_var rfl) (ea_cons (ed rfl rfl) ea_nil)) rfl trivial) (opd_fdiv ?_)) ?_) ⟨_, rfl⟩)
      · rw [gcd_nat]
        exact ⟨by omega, by omega⟩
      · simp only [gcd_nat]
        rw [← Int.natCast_mul, fdiv_nat, eq]
    · subst e
      rw [List.length_map, List.take_length]
      have q := low_step G bn bh (l := comp f b) (fun v hv => (comp_mem.mp hv).1) bn .refl
      obtain ⟨_, _, _, _, _, _, _, _, q4, q5, _⟩ := q
      refine wp_forT (ds := natsD (comp f b)) (fun j Γ => ∃ s6, Γ = [.im (flowD f), .im (adD (sharesL f c done)), .im (adD lk), .ml (natsD (FL f c (S ++ (comp f b).take j))), .im (.tuple (natsD (comp f b))), .im (.int ((c b / gcf c (c b) (comp f b) : Nat) : Nat)), s6]) (ev_var rfl) ⟨_, by rw [List.take_zero, List.append_nil]⟩ (fun j d Γ' hd ⟨s6, e⟩ => ?_) (fun Γ' ⟨s6, e⟩ => ?_)
      · subst e
        obtain ⟨u, hu, rfl⟩ := map_get hd
        obtain ⟨un, uc⟩ := cm hu
        obtain ⟨D, N, es, eN, eD, q1, q2, q3, _⟩ := low_step G bn bh (l := []) (fun v hv => (nomatch hv)) un uc
        have rl := rnd_low G bn bh un uc
        rw [← eN, ← eD] at rl
        have od' := od u un
        rw [es] at od'
        have ed : ∀ {B : Bs} {Γ : List Sk}, Γ[1]? = some (.im (adD (sharesL f c done))) → Γ[6]? = some (.im (.int (u : Nat))) → Ev B (tOp (rIx K) (tDGet (tVar 1) (tVar 6)) (tC (.int 1))) Γ (.int (D : Nat)) := fun h h' => ev_op (ev_dget (ev_var h') (.inr (.inr ⟨_, _, h, rfl, od'.symm⟩))) ev_int (opd_ixT rfl)
        have en : ∀ {B : Bs} {Γ : List Sk}, Γ[1]? = some (.im (adD (sharesL f c done))) → Γ[6]? = some (.im (.int (u : Nat))) → Ev B (tOp (rIx K) (tDGet (tVar 1) (tVar 6)) (tC (.int 0))) Γ (.int (N : Nat)) := fun h h' => ev_op (ev_dget (ev_var h') (.inr (.inr ⟨_, _, h, rfl, od'.symm⟩))) ev_int (opd_ixT rfl)
        have et : (comp f b).take (j + 1) = (comp f b).take j ++ [u] := by rw [List.take_add_one, hu]; rfl
        generalize c b / gcf c (c b) (comp f b) = L at q4 q5 rl
        refine tg_name (wp_asgG (ev_eq (ev_op (ev_op (ev_var rfl) (en rfl rfl) (opd_mul (sm_nat (by omega)).mul)) (ed rfl rfl) (opd_fdiv ⟨by omega, by omega⟩)) (d' := .int (rnd f c u : Nat)) (by rw [← Int.natCast_mul, fdiv_nat, rl])) fun d e => ?_)
        subst e
        refine tg_sub (i := 3) (s' := .ml (natsD (FL f c (S ++ (comp f b).take (j + 1))))) rfl rfl rfl (ev_var rfl) ?_ ⟨_, rfl⟩
        rw [et, ← List.append_assoc, ← FL_set un, ← natsD_set]
        exact sd_ml (ixN_n (by rw [List.length_map, FL_len]; exact un))
      · subst e
        rw [List.length_map, List.take_length]
        refine ⟨_, _, _, _, rfl, fun v hv ⟨b', hb', hc⟩ => ?_⟩
        rcases (mem_take_iff hb).mp hb' with z | z
        · exact List.mem_append_left _ (me v hv ⟨b', z, hc⟩)
        · subst z
          exact List.mem_append_right _ (comp_mem.mpr ⟨hv, hc⟩)
  · subst e
    rw [List.length_map, List.take_length] at me
    have all : ∀ v, v < f.n → v ∈ S := fun v hv => me v hv ⟨root f v, by
      unfold heads
      rw [List.mem_filter, List.mem_range, decide_eq_true_eq]
      exact ⟨(root_mem hv).1, head_root hv⟩, (root_mem hv).2.symm⟩
    rw [FL_all all]
    exact wp_freeze (i := 3) rfl rfl (wp_retD (ev_var rfl) rfl)
theorem sc_round_of : FnScope ["flow", "found"] ["flow"] (defScope s_round_of) := ⟨rfl, rfl, rfl, by decide +kernel, rfl, by decide +kernel, by decide +kernel⟩
theorem ok_round_of (T : Tx mg) (F : Df K mg "round_of" s_round_of) (c_repetitions_in : Cal P w K mg base 5 "repetitions_in" spReps []) : Cal P w K mg base 6 "round_of" spReps [] := by
  refine calA _ _ _ F sc_round_of rfl (by decide) (fun _ => rfl) (fun _ _ _ _ _ _ us hl => match us, hl with | [_], _ => rfl) fun f cdv A outer s H E hr => ⟨_,
    (pss_cons (ps_set (i := 1) sc_round_of.nd rfl (.inl rfl) (pe_c c_repetitions_in hr (by decide) (by rfl) (pa_cons (pv 0) pa_nil)))
      (pss_cons (ps_if (pt_cmpR op_gt (pe_callB (cr_sum rfl) (by rfl) T.m_sum (by decide +kernel) (pa_cons (pv 1) pa_nil)) (pe_gc (by rfl) T.c_MOST_ROUND) (nomark _)) pss_never pss_nil)
      (pss_one (ps_ret (pv 1))))), fun F0 x hx => ?_⟩
  obtain ⟨f, c⟩ := x
  have G : Good f c := hx
  have hs := rndL_sum G
  have hn := G.n
  refine wp_seq (wp_setP (ev_callA (f, c) (ea_cons (ev_var rfl) ea_nil) rfl G) fun d e => ?_)
  subst e
  refine wp_seq (wp_noE (et_test (ev_op (ev_cb (ea_cons (ev_var rfl) ea_nil) cd_sumN) ev_int opd_gt)) (decide_eq_false (by show ¬ (2000 : Int) < ((rndL f c).sum : Nat); omega)) (wp_next ?_))
  exact wp_retD (ev_var rfl) rfl
end
end Dl
set_option Elab.async false
set_option linter.all false
set_option maxRecDepth 100000
set_option maxHeartbeats 1000000
/-! Walks 11: the law's round. -/
namespace Dl
open PySem PySem.Spec PyProof.Rows L2 C8 Rf
def Cl (f : Flow) (D : List Nat) : Prop := ∀ u ∈ D, ∀ v ∈ nearL f u, v ∈ D
/-- the boxes that have a share, while the part of b is walked -/
structure Lr (f : Flow) (b : Nat) (old D : List Nat) : Prop where
  nd : D.Nodup
  lt : ∀ v ∈ D, v < f.n
  mem : ∀ v ∈ D, v ∈ old ∨ Conn f b v
  sub : ∀ v ∈ old, v ∈ D
  box : b ∈ D
theorem Lr.len {f : Flow} {b : Nat} {old D : List Nat} (s : Lr f b old D) : D.length ≤ f.n := by
  have := nodup_sub (D := List.range f.n) s.nd fun v hv => List.mem_range.mpr (s.lt v hv)
  rwa [List.length_range] at this
theorem Lr.more {f : Flow} {b v : Nat} {old D : List Nat} (s : Lr f b old D) (hv : v < f.n) (hc : Conn f b v) (hn : v ∉ D) : Lr f b old (D ++ [v]) := by
  refine ⟨List.nodup_append.mpr ⟨s.nd, by simp, fun a ha d hd z => hn (by simp at hd; rw [← hd, ← z]; exact ha)⟩, fun x hx => ?_, fun x hx => ?_, fun x hx => List.mem_append_left _ (s.sub x hx), List.mem_append_left _ s.box⟩
  · rcases List.mem_append.mp hx with z | z
    · exact s.lt x z
    · simp at z; rw [z]; exact hv
  · rcases List.mem_append.mp hx with z | z
    · exact s.mem x z
    · simp at z; rw [z]; exact .inr hc
theorem root_le {f : Flow} {v : Nat} (h : v < f.n) : root f v ≤ v := by
  have hm : v ∈ comp f v := comp_mem.mpr ⟨h, .refl⟩
  have hs := comp_sorted f v
  unfold root
  cases e : comp f v with
  | nil => rw [e] at hm; cases hm
  | cons a l =>
    rw [e] at hm hs
    show a ≤ v
    rcases List.mem_cons.mp hm with z | z
    · omega
    · exact Nat.le_of_lt ((List.pairwise_cons.mp hs).1 v z)
theorem root_eq_conn {f : Flow} {b v : Nat} (h : v < f.n) (e : root f v = b) : Conn f b v := by
  rw [← e]
  exact (root_mem h).2.symm
section
variable {f : Flow} {c : Nat → Nat} (G : Good f c)
include G
/-- gcd of a part's round is 1 -/
theorem part_one {b : Nat} (hb : b < f.n) (hh : isHead f b) : ∀ d, (∀ u ∈ comp f b, d ∣ rnd f c u) → d = 1 := fun d hd => by
  have p1 := (G.pos b hb).1
  have eg : ∀ u ∈ comp f b, grp f c u = gcf c (c b) (comp f b) := fun u hu => grp_head G hh (comp_mem.mp hu).2
  obtain ⟨g1, g2⟩ := gcf_dvd (c := c) (R := c b) (l := comp f b)
  have g3 : 1 ≤ gcf c (c b) (comp f b) := Nat.pos_of_dvd_of_pos g1 (by omega)
  have hdv : ∀ u ∈ comp f b, gcf c (c b) (comp f b) * d ∣ c u := fun u hu => by
    have h1 := hd u hu
    unfold rnd at h1
    rw [eg u hu] at h1
    have := Nat.mul_dvd_mul_left (gcf c (c b) (comp f b)) h1
    rwa [Nat.mul_div_cancel' (g2 u hu)] at this
  have h2 : gcf c (c b) (comp f b) * d ∣ gcf c (c b) (comp f b) := dvd_gcf (hdv b (comp_mem.mpr ⟨hb, .refl⟩)) hdv
  have h3 := Nat.le_of_dvd g3 h2
  have h4 : 1 ≤ d := by
    rcases Nat.eq_zero_or_pos d with z | z
    · subst z
      rw [Nat.mul_zero] at h2
      have := Nat.eq_zero_of_zero_dvd h2
      omega
    · exact z
  have h5 : gcf c (c b) (comp f b) * d ≤ gcf c (c b) (comp f b) * 1 := by omega
  have := Nat.le_of_mul_le_mul_left h5 g3
  omega
end
def gcl (l : List Nat) : Nat := l.foldl Nat.gcd 0
theorem gcl_snoc (l : List Nat) (x : Nat) : gcl (l ++ [x]) = Nat.gcd (gcl l) x := by
  unfold gcl
  rw [List.foldl_append]
  rfl
theorem foldl_gcd_dvd {l : List Nat} : ∀ {g : Nat}, l.foldl Nat.gcd g ∣ g ∧ ∀ x ∈ l, l.foldl Nat.gcd g ∣ x := by
  induction l with
  | nil => intro g; exact ⟨Nat.dvd_refl _, fun x hx => (nomatch hx)⟩
  | cons a l ih =>
    intro g
    obtain ⟨h1, h2⟩ := ih (g := Nat.gcd g a)
    refine ⟨Nat.dvd_trans h1 (Nat.gcd_dvd_left ..), fun x hx => ?_⟩
    rcases List.mem_cons.mp hx with e | hx
    · rw [e]; exact Nat.dvd_trans h1 (Nat.gcd_dvd_right ..)
    · exact h2 x hx
section
variable {P : Program} {w : World} {K : PySem.W.Frag} {mg : PySem.Str → Option Value} {base : Heap}
theorem sc__law_round : FnScope ["_law_flow_here", "_law_shares", "_law_box", "_law_turn", "_law_one", "_law_other", "_law_give", "_law_eat", "_law_start", "_law_found", "_law_part", "_law_below", "_law_common", "_law_k"] ["_law_flow_here"] (defScope s_law_round) := ⟨rfl, rfl, rfl, by decide +kernel, rfl, by decide +kernel, by decide +kernel⟩
theorem ok__law_round (T : Tx mg) (F : Df K mg "_law_round" s_law_round) (c__law_gcd : Cal P w K mg base 1 "_law_gcd" spGcd []) (c__law_joined : Cal P w K mg base 1 "_law_joined" spComp []) (c__law_ratio : Cal P w K mg base 2 "_law_ratio" spRed []) : Cal P w K mg base 3 "_law_round" spReps [] := by
  refine calA _ _ _ F sc__law_round rfl (by decide) (fun _ => rfl) (fun _ _ _ _ _ _ us hl => match us, hl with | [_], _ => rfl) fun f cdv A outer s H E hr => ⟨_,
    (pss_cons (ps_set (i := 1) sc__law_round.nd rfl (.inl rfl) pe_dnewK)
      (pss_cons (ps_for PassesOwn.never rfl (pi_range1 (by rfl) T.m_range (pa_cons (pe_ix ix_seq (pv 0) pe_int (fun _ _ => rfl)) pa_nil)) (pg_name (i := 2) sc__law_round.nd rfl (.inl rfl)) (pss_one (ps_if (pt_cmp (pc_dnotin (hu_of hr) (pv 2) (pv 1))) (pss_cons (ps_asg (pe_tup (pa_cons pe_int (pa_cons pe_int pa_nil))) (pg_sub (pv 1) (pv 2) (set_dict (hu_of hr))))
      (pss_one (ps_for PassesOwn.never rfl (pi_range1 (by rfl) T.m_range (pa_cons (pe_ix ix_seq (pv 0) pe_int (fun _ _ => rfl)) pa_nil)) (pg_name (i := 3) sc__law_round.nd rfl (.inl rfl)) (pss_one (ps_for PassesOwn.never rfl (pi_tup (pe_ix ix_seq (pv 0) pe_int (fun _ _ => rfl))) (pg_tup rfl (pgs_cons (pg_name (i := 4) sc__law_round.nd rfl (.inl rfl)) (pgs_cons (pg_name (i := 5) sc__law_round.nd rfl (.inl rfl)) (pgs_cons (pg_name (i := 6) sc__law_round.nd rfl (.inl rfl)) (pgs_cons (pg_name (i := 7) sc__law_round.nd rfl (.inl rfl)) (pgs_cons (pg_name (i := 8) sc__law_round.nd rfl (.inl rfl)) pgs_nil)))))) (pss_cons (ps_if (PW.pt (pw_and (pt_cmp (pc_din (hu_of hr) (pv 4) (pv 1))) (pw_and1 (pt_cmp (pc_dnotin (hu_of hr) (pv 5) (pv 1)))))) (pss_one (ps_asg (pe_c c__law_ratio hr (by decide) (by rfl) (pa_cons (pe_op op_mul (pe_ix ix_seq (pe_dget (hu_of hr) (pv 1) (pv 4) (fun _ _ => rfl)) pe_int (fun _ _ => rfl)) (pv 6)) (pa_cons (pe_op op_mul (pe_ix ix_seq (pe_dget (hu_of hr) (pv 1) (pv 4) (fun _ _ => rfl)) pe_int (fun _ _ => rfl)) (pv 7)) pa_nil))) (pg_sub (pv 1) (pv 5) (set_dict (hu_of hr))))) pss_nil)
      (pss_one (ps_if (PW.pt (pw_and (pt_cmp (pc_din (hu_of hr) (pv 5) (pv 1))) (pw_and1 (pt_cmp (pc_dnotin (hu_of hr) (pv 4) (pv 1)))))) (pss_one (ps_asg (pe_c c__law_ratio hr (by decide) (by rfl) (pa_cons (pe_op op_mul (pe_ix ix_seq (pe_dget (hu_of hr) (pv 1) (pv 5) (fun _ _ => rfl)) pe_int (fun _ _ => rfl)) (pv 7)) (pa_cons (pe_op op_mul (pe_ix ix_seq (pe_dget (hu_of hr) (pv 1) (pv 5) (fun _ _ => rfl)) pe_int (fun _ _ => rfl)) (pv 6)) pa_nil))) (pg_sub (pv 1) (pv 4) (set_dict (hu_of hr))))) pss_nil)))))))) pss_nil)))
      (pss_cons (ps_set (i := 9) sc__law_round.nd rfl (.inl rfl) (pe_lst pa_nil))
      (pss_cons (ps_for PassesOwn.never rfl (pi_range1 (by rfl) T.m_range (pa_cons (pe_ix ix_seq (pv 0) pe_int (fun _ _ => rfl)) pa_nil)) (pg_name (i := 2) sc__law_round.nd rfl (.inl rfl)) (pss_cons (ps_par3 (i := 10) (j := 11) (l := 12) (by rfl) sc__law_round.nd rfl rfl rfl (by decide) (by decide) (by decide) rfl rfl rfl (pa_cons (pe_c c__law_joined hr (by decide) (by rfl) (pa_cons (pv 0) (pa_cons (pv 2) (pa_cons pe_bl pa_nil)))) (pa_cons pe_int (pa_cons pe_int pa_nil))) (by rfl))
      (pss_cons (ps_for PassesOwn.never rfl (pi_list (pv 10)) (pg_name (i := 13) sc__law_round.nd rfl (.inl rfl)) (pss_one (ps_set (i := 11) sc__law_round.nd rfl (.inl rfl) (pe_op op_fdivN (pe_op op_mul (pv 11) (pe_ix ix_seq (pe_dget (hu_of hr) (pv 1) (pv 13) (fun _ _ => rfl)) pe_int (fun _ _ => rfl))) (pe_c c__law_gcd hr (by decide) (by rfl) (pa_cons (pv 11) (pa_cons (pe_ix ix_seq (pe_dget (hu_of hr) (pv 1) (pv 13) (fun _ _ => rfl)) pe_int (fun _ _ => rfl)) pa_nil)))))))
      (pss_cons (ps_for PassesOwn.never rfl (pi_list (pv 10)) (pg_name (i := 13) sc__law_round.nd rfl (.inl rfl)) (pss_one (ps_set (i := 12) sc__law_round.nd rfl (.inl rfl) (pe_c c__law_gcd hr (by decide) (by rfl) (pa_cons (pv 12) (pa_cons (pe_op op_fdivN (pe_op op_mul (pv 11) (pe_ix ix_seq (pe_dget (hu_of hr) (pv 1) (pv 13) (fun _ _ => rfl)) pe_int (fun _ _ => rfl))) (pe_ix ix_seq (pe_dget (hu_of hr) (pv 1) (pv 13) (fun _ _ => rfl)) pe_int (fun _ _ => rfl))) pa_nil))))))
      (pss_one (ps_expr (pe_bm PySem.F.plainAttrs_list PySem.F.slot_list_append PySem.F.type_list_append mt_append (pv 9) (pa_cons (pe_op op_fdivN (pe_op op_fdivN (pe_op op_mul (pv 11) (pe_ix ix_seq (pe_dget (hu_of hr) (pv 1) (pv 2) (fun _ _ => rfl)) pe_int (fun _ _ => rfl))) (pe_ix ix_seq (pe_dget (hu_of hr) (pv 1) (pv 2) (fun _ _ => rfl)) pe_int (fun _ _ => rfl))) (pv 12)) pa_nil))))))))
      (pss_one (ps_ret (pv 9))))))), fun F0 x hx => ?_⟩
  obtain ⟨f, c⟩ := x
  have G : Good f c := hx
  clear hx
  have h1 := G.n
  have h2 := G.ps
  have ok := G.ends
  show Wp _ _ ([.im (flowD f)] ++ List.replicate _ .un) _
  refine wp_seq (wp_setS evs_dk ?_)
  have od : ∀ (D : List Nat) (v : Nat), aget (sharesL f c D) ((v : Nat) : Int) = if v ∈ D then some (pI (share f c v)) else none := fun D v => aget_map D v
  refine wp_seq (wp_forR1 (n := (f.n : Nat)) (Pn := fun _ => True) (fun i Γ => ∃ D s2 s3 s4 s5 s6 s7 s8, Γ = [.im (flowD f), .dk (sharesL f c D), s2, s3, s4, s5, s6, s7, s8, .un, .un, .un, .un, .un] ∧ D.Nodup ∧ (∀ v ∈ D, v < f.n) ∧ ∀ v, v < f.n → (v ∈ D ↔ root f v < i)) (ea_cons (ev_op (ev_var rfl) ev_int (opd_ixT rfl)) ea_nil) (by omega)
    ⟨[], _, _, _, _, _, _, _, rfl, List.nodup_nil, fun v hv => (nomatch hv), fun v _ => ⟨fun z => (nomatch z), fun z => absurd z (Nat.not_lt_zero _)⟩⟩ (fun i Γ' hi ⟨D, s2, s3, s4, s5, s6, s7, s8, e, nd0, lt0, me0⟩ => ?_) (fun Γ' ⟨D, s2, s3, s4, s5, s6, s7, s8, e, nd0, lt0, me0⟩ => ?_))
  · subst e
    have hi : i < f.n := by omega
    have rle := root_le hi
    have lD := nodup_sub (D := List.range f.n) nd0 fun v hv => List.mem_range.mpr (lt0 v hv)
    rw [List.length_range] at lD
    refine tg_name (wp_ifD (et_eq (et_test (ev_dnotin (ev_var rfl) (.inl ⟨_, _, rfl, rfl, rfl⟩))) (d' := !decide (i ∈ D)) (by rw [od]; by_cases z : i ∈ D <;> simp [z])) (fun e => ?_) (fun e => wp_next ?_))
    · have ni : i ∉ D := by simpa using e
      have hr : root f i = i := by
        have : ¬ root f i < i := fun z => ni ((me0 i hi).mpr z)
        omega
      have hh : isHead f i := by
        have := head_root hi
        rwa [hr] at this
      have cD : Cl f D := fun u hu v hv => by
        have un := lt0 u hu
        have vn := near_lt ok hv
        rw [me0 v vn, ← root_same (.step .refl hv), ← me0 u un]
        exact hu
      refine wp_seq (wp_asgG (Pe := fun d => d = pI (1, 1)) (ev_tup (ea_cons ev_int (ea_cons ev_int ea_nil))) fun d e => ?_)
      subst e
      refine tg_sub (i := 1) (s' := .dk (sharesL f c (D ++ [i]))) rfl rfl rfl (ev_var rfl) ?_ ?_
      · have sp := sharesL_put (f := f) (c := c) ni
        rw [share_head G hh hi] at sp
        rw [← sp]
        exact sd_dk (by rw [List.length_map]; omega)
      have L0 : Lr f i D (D ++ [i]) := by
        refine ⟨List.nodup_append.mpr ⟨nd0, by simp, fun a ha d hd z => ni (by simp at hd; rw [← hd, ← z]; exact ha)⟩, fun x hx => ?_, fun x hx => ?_, fun x hx => List.mem_append_left _ hx, by simp⟩
        · rcases List.mem_append.mp hx with z | z
          · exact lt0 x z
          · simp at z; rw [z]; exact hi
        · rcases List.mem_append.mp hx with z | z
          · exact .inl z
          · simp at z; rw [z]; exact .inr .refl
      refine wp_forR1 (n := (f.n : Nat)) (Pn := fun _ => True) (fun t Γ => ∃ E s3 s4 s5 s6 s7 s8, Γ = [.im (flowD f), .dk (sharesL f c E), .im (.int (i : Nat)), s3, s4, s5, s6, s7, s8, .un, .un, .un, .un, .un] ∧ Lr f i D E ∧ (Cl f E ∨ t + 1 ≤ E.length)) (ea_cons (ev_op (ev_var rfl) ev_int (opd_ixT rfl)) ea_nil) (by omega)
        ⟨D ++ [i], _, _, _, _, _, _, rfl, L0, .inr (by simp)⟩ (fun t Γ' ht ⟨E, s3, s4, s5, s6, s7, s8, e, L1, big⟩ => ?_) (fun Γ' ⟨E, s3, s4, s5, s6, s7, s8, e, L1, big⟩ => ?_)
      · subst e
        refine tg_name (wp_forT (fun j Γ => ∃ ex s4 s5 s6 s7 s8, Γ = [.im (flowD f), .dk (sharesL f c (E ++ ex)), .im (.int (i : Nat)), .im (.int (t : Nat)), s4, s5, s6, s7, s8, .un, .un, .un, .un, .un] ∧ Lr f i D (E ++ ex) ∧ (Cl f E → ex = []) ∧ (ex = [] → ∀ (k : Nat) (p : Pipe), k < j → f.ps[k]? = some p → (p.one ∈ E ↔ p.other ∈ E)))
          (ev_op (ev_var rfl) ev_int (opd_ixT rfl)) ⟨[], _, _, _, _, _, by rw [List.append_nil]; rfl, by rw [List.append_nil]; exact L1, fun _ => rfl, fun _ k p hk => absurd hk (Nat.not_lt_zero k)⟩ (fun j d Γ' hd ⟨ex, s4, s5, s6, s7, s8, e, L2, cx, cl⟩ => ?_) (fun Γ' ⟨ex, s4, s5, s6, s7, s8, e, L2, cx, cl⟩ => ?_))
        · subst e
          obtain ⟨p, hp, rfl⟩ := map_get hd
          have pm := List.mem_of_getElem? hp
          have pe := ok p pm
          obtain ⟨⟨ga, gb⟩, ea, eb⟩ := G.rate p pm
          have n1 : p.other ∈ nearL f p.one := near_mem.mpr ⟨p, pm, .inl ⟨rfl, rfl⟩⟩
          have n2 : p.one ∈ nearL f p.other := near_symm n1
          have reach : ∀ {u v : Nat} {ex : List Nat}, Lr f i D (E ++ ex) → u ∈ E ++ ex → v ∈ nearL f u → v ∉ E ++ ex → Conn f i v := fun {u v ex} L hu hv hn => by
            rcases L.mem u hu with z | z
            · exact absurd (L.sub v (cD u z v hv)) hn
            · exact .step z hv
          refine tg_tup rfl (bts_name (bts_name (bts_name (bts_name (bts_name (bts_nil ?_))))))
          show Wp _ _ [.im (flowD f), .dk (sharesL f c (E ++ ex)), .im (.int (i : Nat)), .im (.int (t : Nat)), .im (.int (p.one : Nat)), .im (.int (p.other : Nat)), .im (.int (p.give : Nat)), .im (.int (p.eat : Nat)), .im (.int (p.start : Nat)), .un, .un, .un, .un, .un] _
          have tst : ∀ {B : Bs} {Γ : List Sk} {a b : Nat} {u v : Nat} {F : List Nat}, Γ[1]? = some (.dk (sharesL f c F)) → Γ[a]? = some (.im (.int (u : Nat))) → Γ[b]? = some (.im (.int (v : Nat))) → Et B (tAnd (tTest (tDIn (tVar a) (tVar 1))) (tTest (tDNotIn (tVar b) (tVar 1)))) Γ (decide (u ∈ F) && !decide (v ∈ F)) := fun {B Γ a b u v F} e1 e2 e3 =>
            et_eq (et_and (et_test (ev_din (ev_var e2) (.inl ⟨_, _, e1, rfl, rfl⟩))) fun _ => et_test (ev_dnotin (ev_var e3) (.inl ⟨_, _, e1, rfl, rfl⟩))) (by
              rw [od, od]
              by_cases z1 : u ∈ F <;> by_cases z2 : v ∈ F <;> simp [z1, z2])
          have val : ∀ {B : Bs} {Γ : List Sk} {a x y : Nat} {u v : Nat} {ra rb : Nat} {F : List Nat} {E : XK}, Γ[1]? = some (.dk (sharesL f c F)) → Γ[a]? = some (.im (.int (u : Nat))) → Γ[x]? = some (.im (.int (ra : Nat))) → Γ[y]? = some (.im (.int (rb : Nat))) → u ∈ F → u < f.n → v ∈ nearL f u → c u * ra = c v * rb → 1 ≤ ra → 1 ≤ rb → rb ≤ 8 →
              Ev B (tCall spRed [] E (tCons (tOp (rI CMul fun i j => .int (i * j)) (tOp (rIx K) (tDGet (tVar 1) (tVar a)) (tC (.int 0))) (tVar x)) (tCons (tOp (rI CMul fun i j => .int (i * j)) (tOp (rIx K) (tDGet (tVar 1) (tVar a)) (tC (.int 1))) (tVar y)) tNil))) Γ (pI (share f c v)) := fun {B Γ a x y u v ra rb F E} e1 e2 e3 e4 hu un hv hb r1 r2 r3 => by
            have bd := share_bd G un
            have st := share_step G un (near_lt ok hv) (.step .refl hv) hb (by omega) (by omega)
            have hm9 : (share f c u).2 * (rb : Int) < 1073741824 := by
              have : (share f c u).2 * (rb : Int) ≤ 4 * 8 := Int.mul_le_mul bd.2.2.2 (by omega) (by omega) (by omega)
              omega
            have hm0 : 0 < (share f c u).2 * (rb : Int) := Int.mul_pos bd.2.2.1 (by omega)
            have dg : Ev B (tDGet (tVar 1) (tVar a)) Γ (pI (share f c u)) := ev_dget (ev_var e2) (.inl ⟨_, _, e1, rfl, by rw [od, if_pos hu]⟩)
            exact ev_eq (ev_callA (((share f c u).1 * (ra : Int), (share f c u).2 * (rb : Int)) : Int × Int) (ea_cons (ev_op (ev_op dg ev_int (opd_ixT rfl)) (ev_var e3) (opd_mul (.inl ⟨by omega, by omega⟩))) (ea_cons (ev_op (ev_op dg ev_int (opd_ixT rfl)) (ev_var e4) (opd_mul (.inl ⟨by omega, by omega⟩))) ea_nil)) rfl ⟨hm0, hm9⟩) (by rw [st])
          have len2 := L2.len
          refine wp_seq (wp_ifD (tst rfl rfl rfl) (fun e => ?_) (fun e => wp_next ?_))
          · rw [Bool.and_eq_true, decide_eq_true_eq, Bool.not_eq_true', decide_eq_false_iff_not] at e
            obtain ⟨e1, e2⟩ := e
            refine wp_asgG (val rfl rfl rfl rfl e1 pe.1 n1 (G.bal p pm) ga ea eb) fun d e => ?_
            subst e
            refine tg_sub (i := 1) (s' := .dk (sharesL f c (E ++ ex ++ [p.other]))) rfl rfl rfl (ev_var rfl) (by rw [← sharesL_put e2]; exact sd_dk (by rw [List.length_map]; omega)) ?_
            have L3 := L2.more pe.2 (reach L2 e1 n1 e2) e2
            refine wp_ifD (tst rfl rfl rfl) (fun e => ?_) (fun e => wp_next ?_)
            · rw [Bool.and_eq_true, decide_eq_true_eq, Bool.not_eq_true', decide_eq_false_iff_not] at e
              exact absurd (List.mem_append_left _ e1) e.2
            · exact ⟨ex ++ [p.other], _, _, _, _, _, by rw [← List.append_assoc]; rfl, by rw [← List.append_assoc]; exact L3, fun z => by
                have := cx z
                subst this
                rw [List.append_nil] at e1 e2
                exact absurd (z _ e1 _ n1) e2, fun z => by simp at z⟩
          · have e : p.one ∈ E ++ ex → p.other ∈ E ++ ex := fun z => by
              rw [Bool.and_eq_false_iff, decide_eq_false_iff_not, Bool.not_eq_false', decide_eq_true_eq] at e
              exact e.elim (fun y => absurd z y) id
            refine wp_ifD (tst rfl rfl rfl) (fun e' => ?_) (fun e' => wp_next ?_)
            · rw [Bool.and_eq_true, decide_eq_true_eq, Bool.not_eq_true', decide_eq_false_iff_not] at e'
              obtain ⟨e1, e2⟩ := e'
              refine wp_asgG (val rfl rfl rfl rfl e1 pe.2 n2 (G.bal p pm).symm ea ga gb) fun d e => ?_
              subst e
              refine tg_sub (i := 1) (s' := .dk (sharesL f c (E ++ ex ++ [p.one]))) rfl rfl rfl (ev_var rfl) (by rw [← sharesL_put e2]; exact sd_dk (by rw [List.length_map]; omega)) ?_
              have L3 := L2.more pe.1 (reach L2 e1 n2 e2) e2
              exact ⟨ex ++ [p.one], _, _, _, _, _, by rw [← List.append_assoc]; rfl, by rw [← List.append_assoc]; exact L3, fun z => by
                have := cx z
                subst this
                rw [List.append_nil] at e1 e2
                exact absurd (z _ e1 _ n2) e2, fun z => by simp at z⟩
            · have e' : p.other ∈ E ++ ex → p.one ∈ E ++ ex := fun z => by
                rw [Bool.and_eq_false_iff, decide_eq_false_iff_not, Bool.not_eq_false', decide_eq_true_eq] at e'
                exact e'.elim (fun y => absurd z y) id
              refine ⟨ex, _, _, _, _, _, rfl, L2, cx, fun z k q hk hq => ?_⟩
              by_cases y : k = j
              · subst y
                rw [hp] at hq
                cases hq
                subst z
                rw [List.append_nil] at e e'
                exact ⟨e, e'⟩
              · exact cl z k q (by omega) hq
        · subst e
          rw [List.length_map] at cl
          refine ⟨E ++ ex, _, _, _, _, _, _, rfl, L2, ?_⟩
          by_cases z : ex = []
          · left
            subst z
            rw [List.append_nil]
            intro u hu v hv
            obtain ⟨p, hp, hpp⟩ := near_mem.mp hv
            obtain ⟨k, hk, ek⟩ := List.mem_iff_getElem.mp hp
            have := cl rfl k p hk (by rw [List.getElem?_eq_getElem hk, ek])
            rcases hpp with ⟨a, b⟩ | ⟨a, b⟩
            · rw [← b]; exact this.mp (by rw [a]; exact hu)
            · rw [← a]; exact this.mpr (by rw [b]; exact hu)
          · right
            rcases big with y | y
            · exact absurd (cx y) z
            · have : 0 < ex.length := List.length_pos_iff.mpr z
              rw [List.length_append]
              omega
      · subst e
        have len1 := L1.len
        have clE : Cl f E := by
          rcases big with z | z
          · exact z
          · rw [Int.toNat_natCast] at z
            omega
        refine ⟨E, _, _, _, _, _, _, _, rfl, L1.nd, L1.lt, fun v hv => ⟨fun z => ?_, fun z => ?_⟩⟩
        · rcases L1.mem v z with y | y
          · have := (me0 v hv).mp y
            omega
          · rw [← root_same y, hr]
            omega
        · by_cases y : root f v < i
          · exact L1.sub v ((me0 v hv).mpr y)
          · exact (root_eq_conn hv (by omega : root f v = i)).closed (S := fun u => u ∈ E) (fun u x hu hx => clE u hu x hx) L1.box
    · have hm : i ∈ D := by simpa using e
      have hri := (me0 i hi).mp hm
      refine ⟨D, _, _, _, _, _, _, _, rfl, nd0, lt0, fun v hv => ?_⟩
      rw [me0 v hv]
      constructor
      · intro z; omega
      · intro z
        have : root f v ≠ i := fun y => by
          have := root_same (root_eq_conn hv y)
          omega
        omega
  · subst e
    rw [Int.toNat_natCast] at me0
    have all : ∀ v, v < f.n → v ∈ D := fun v hv => (me0 v hv).mpr (root_mem hv).1
    refine wp_seq (wp_setS evs_nil ?_)
    refine wp_seq (wp_forR1 (n := (f.n : Nat)) (Pn := fun _ => True) (fun i Γ => ∃ s2 s3 s4 s5 s6 s7 s8 t0 t1 t2 t3, Γ = [.im (flowD f), .dk (sharesL f c D), s2, s3, s4, s5, s6, s7, s8, .ml (natsD ((List.range i).map (rnd f c))), t0, t1, t2, t3]) (ea_cons (ev_op (ev_var rfl) ev_int (opd_ixT rfl)) ea_nil) (by omega)
      ⟨_, _, _, _, _, _, _, _, _, _, _, rfl⟩ (fun i Γ' hi ⟨s2, s3, s4, s5, s6, s7, s8, t0, t1, t2, t3, e⟩ => ?_) (fun Γ' ⟨s2, s3, s4, s5, s6, s7, s8, t0, t1, t2, t3, e⟩ => ?_))
    · subst e
      have hi : i < f.n := by omega
      generalize hb : root f i = b
      have bn : b < f.n := by rw [← hb]; exact (root_mem hi).1
      have bh : isHead f b := by rw [← hb]; exact head_root hi
      have bc : Conn f b i := root_eq_conn hi hb
      have ec : comp f i = comp f b := (comp_same bc).symm
      have cl := comp_len f b
      have cm : ∀ {j u : Nat}, (comp f b)[j]? = some u → u < f.n ∧ Conn f b u := fun h => comp_mem.mp (List.mem_of_getElem? h)
      refine tg_name (wp_seq (wp_par3 (Ps := fun ss => ss = [.im (.list (natsD (comp f b))), .im (.int 1), .im (.int 0)]) (es_cons (evs_d (ev_eq (ev_callA (f, i) (ea_cons (ev_var rfl) (ea_cons (ev_var rfl) (ea_cons ev_bl ea_nil))) rfl (by exact ⟨G.toShape, hi⟩)) (by rw [ec]))) (es_cons (evs_d ev_int) (es_cons (evs_d ev_int) esp_nil))) fun ss e => ⟨_, _, _, e, ?_⟩))
      have od' : ∀ {B : Bs} {Γ : List Sk} {u : Nat} {a : Nat}, Γ[1]? = some (.dk (sharesL f c D)) → Γ[a]? = some (.im (.int (u : Nat))) → u < f.n → Ev B (tDGet (tVar 1) (tVar a)) Γ (pI (share f c u)) := fun e1 e2 hu => ev_dget (ev_var e2) (.inl ⟨_, _, e1, rfl, by rw [od, if_pos (all _ hu)]⟩)
      refine wp_seq (wp_forL (Pl := fun _ => True) (ds := natsD (comp f b)) (fun j Γ => ∃ t3, Γ = [.im (flowD f), .dk (sharesL f c D), .im (.int (i : Nat)), s3, s4, s5, s6, s7, s8, .ml (natsD ((List.range i).map (rnd f c))), .im (.list (natsD (comp f b))), .im (.int ((c b / gcf c (c b) ((comp f b).take j) : Nat) : Nat)), .im (.int 0), t3]) (ev_var rfl) ⟨t3, ?_⟩ (fun j d Γ' hd ⟨t3, e⟩ => ?_) (fun Γ' ⟨t3, e⟩ => ?_))
      · have : c b / gcf c (c b) ((comp f b).take 0) = 1 := Nat.div_self (G.pos b bn).1
        rw [this]
        rfl
      · subst e
        obtain ⟨u, hu, rfl⟩ := map_get hd
        obtain ⟨un, uc⟩ := cm hu
        obtain ⟨Dn, N, es, eN, eD, q1, q2, q3, q4, q5, q6, q7, q8, eq⟩ := low_step G bn bh (l := (comp f b).take j) (fun v hv => (comp_mem.mp (List.mem_of_mem_take hv)).1) un uc
        have et : (comp f b).take (j + 1) = (comp f b).take j ++ [u] := by rw [List.take_add_one, hu]; rfl
        rw [← et] at eq
        generalize c b / gcf c (c b) ((comp f b).take j) = L at q4 q5 eq
        have ed : ∀ {B : Bs} {Γ : List Sk}, Γ[1]? = some (.dk (sharesL f c D)) → Γ[13]? = some (.im (.int (u : Nat))) → Ev B (tOp (rIx K) (tDGet (tVar 1) (tVar 13)) (tC (.int 1))) Γ (.int (Dn : Nat)) := fun h h' => ev_op (od' h h' un) ev_int (opd_ixT (by rw [es]; rfl))
        have hg : Nat.gcd L Dn ≤ 4 := Nat.le_trans (Nat.gcd_le_left _ (by omega)) q4
        have hg1 : 1 ≤ Nat.gcd L Dn := Nat.gcd_pos_of_pos_left _ (by omega)
        refine tg_name (wp_set (d := .int ((c b / gcf c (c b) ((comp f b).take (j + 1)) : Nat) : Nat)) (ev_eq (ev_op (ev_op (ev_var rfl) (ed rfl rfl) (opd_mul (sm_nat (by omega)).mul)) (ev_callA (((L : Nat) : Int), ((Dn : Nat) : Int)) (ea_cons (ev_var rfl) (ea_cons (ed rfl rfl) ea_nil)) rfl trivial) (opd_fdiv ?_)) ?_) ⟨_, rfl⟩)
        · rw [gcd_nat]
          exact ⟨by omega, by omega⟩
        · simp only [gcd_nat]
          rw [← Int.natCast_mul, fdiv_nat, eq]
      · subst e
        rw [List.length_map, List.take_length]
        obtain ⟨_, _, _, _, _, _, _, _, q4, q5, _⟩ := low_step G bn bh (l := comp f b) (fun v hv => (comp_mem.mp hv).1) bn .refl
        have rlow : ∀ {u : Nat}, u < f.n → Conn f b u → ∃ N Dn : Nat, share f c u = (((N : Nat) : Int), ((Dn : Nat) : Int)) ∧ N ≤ 4 ∧ 1 ≤ Dn ∧ Dn ≤ 4 ∧ (c b / gcf c (c b) (comp f b)) * N / Dn = rnd f c u := fun {u} un uc => by
          obtain ⟨Dn, N, es, eN, eD, q1, q2, q3, _⟩ := low_step G bn bh (l := []) (fun v hv => (nomatch hv)) un uc
          have rl := rnd_low G bn bh un uc
          rw [← eN, ← eD] at rl
          exact ⟨N, Dn, es, q3, q1, q2, rl⟩
        generalize hL : c b / gcf c (c b) (comp f b) = L at q4 q5 rlow
        have ev : ∀ {B : Bs} {Γ : List Sk} {u a : Nat}, u < f.n → Conn f b u → Γ[1]? = some (.dk (sharesL f c D)) → Γ[a]? = some (.im (.int (u : Nat))) → Γ[11]? = some (.im (.int (L : Nat))) → Ev B (tOp (rI CDivN fun i j => .int (i.fdiv j)) (tOp (rI CMul fun i j => .int (i * j)) (tVar 11) (tOp (rIx K) (tDGet (tVar 1) (tVar a)) (tC (.int 0)))) (tOp (rIx K) (tDGet (tVar 1) (tVar a)) (tC (.int 1)))) Γ (.int (rnd f c u : Nat)) := fun {B Γ u a} un uc e1 e2 e3 => by
          obtain ⟨N, Dn, es, n1, n2, n3, er⟩ := rlow un uc
          have en : Ev B (tOp (rIx K) (tDGet (tVar 1) (tVar a)) (tC (.int 0))) Γ (.int (N : Nat)) := ev_op (od' e1 e2 un) ev_int (opd_ixT (by rw [es]; rfl))
          have ed : Ev B (tOp (rIx K) (tDGet (tVar 1) (tVar a)) (tC (.int 1))) Γ (.int (Dn : Nat)) := ev_op (od' e1 e2 un) ev_int (opd_ixT (by rw [es]; rfl))
          exact ev_eq (ev_op (ev_op (ev_var e3) en (opd_mul (sm_nat (by omega)).mul)) ed (opd_fdiv ⟨by omega, by omega⟩)) (by rw [← Int.natCast_mul, fdiv_nat, er])
        refine wp_seq (wp_forL (Pl := fun _ => True) (ds := natsD (comp f b)) (fun j Γ => ∃ t3, Γ = [.im (flowD f), .dk (sharesL f c D), .im (.int (i : Nat)), s3, s4, s5, s6, s7, s8, .ml (natsD ((List.range i).map (rnd f c))), .im (.list (natsD (comp f b))), .im (.int (L : Nat)), .im (.int (gcl (((comp f b).take j).map (rnd f c)) : Nat)), t3]) (ev_var rfl) ⟨_, rfl⟩ (fun j d Γ' hd ⟨t3, e⟩ => ?_) (fun Γ' ⟨t3, e⟩ => ?_))
        · subst e
          obtain ⟨u, hu, rfl⟩ := map_get hd
          obtain ⟨un, uc⟩ := cm hu
          have et : (comp f b).take (j + 1) = (comp f b).take j ++ [u] := by rw [List.take_add_one, hu]; rfl
          refine tg_name (wp_set (d := .int (gcl (((comp f b).take (j + 1)).map (rnd f c)) : Nat)) (ev_eq (ev_callA (((gcl (((comp f b).take j).map (rnd f c)) : Nat) : Int), ((rnd f c u : Nat) : Int)) (ea_cons (ev_var rfl) (ea_cons (ev un uc rfl rfl rfl) ea_nil)) rfl trivial) ?_) ⟨_, rfl⟩)
          rw [gcd_nat, et, List.map_append, List.map_singleton, gcl_snoc]
        · subst e
          rw [List.length_map, List.take_length]
          have one : gcl ((comp f b).map (rnd f c)) = 1 := part_one G bn bh _ fun u hu => foldl_gcd_dvd.2 _ (List.mem_map.mpr ⟨u, hu, rfl⟩)
          rw [one]
          refine wp_append rfl (ev_op (ev hi bc rfl rfl rfl) (ev_var rfl) (opd_fdiv ⟨by decide, by decide⟩)) (by simp; omega) fun d e => ?_
          subst e
          refine ⟨_, _, _, _, _, _, _, _, _, _, _, set_ml (b := natsD ((List.range (i + 1)).map (rnd f c))) ?_ rfl⟩
          have e1 : ((rnd f c i : Nat) : Int).fdiv ((1 : Nat) : Int) = ((rnd f c i : Nat) : Int) := by rw [fdiv_nat, Nat.div_one]
          rw [e1, natsD_app, List.range_succ, List.map_append]
          rfl
    · subst e
      refine wp_freeze (i := 9) rfl rfl (wp_retD (ev_var rfl) ?_)
      show PyData.list _ = PyData.list _
      rw [Int.toNat_natCast]
      rfl
end
end Dl
set_option Elab.async false
set_option linter.all false
set_option maxRecDepth 100000
set_option maxHeartbeats 1000000
/-! Walks 12: live flows. -/
namespace Dl
open PySem PySem.Spec PyProof.Rows L2 C8 Rf
/-! ### what can be done can be done in any order -/
theorem Run.marks {f : Flow} : ∀ {w m : List Nat}, Run f w m → ∀ (i : Nat) (p : Pipe) (x : Nat), f.ps[i]? = some p → m[i]? = some x → x + p.eat * w.count p.other = p.start + p.give * w.count p.one
  | _, _, .nil, i, p, x, h1, h2 => by
    unfold Dl.marks at h2
    rw [List.getElem?_map, h1] at h2
    cases h2
    simp
  | _, _, .snoc (w := w) (m := m) (v := v) r hv hc, i, p, x, h1, h2 => by
    obtain ⟨y, hy⟩ : ∃ y, m[i]? = some y := ⟨_, List.getElem?_eq_getElem (by rw [r.len]; exact (List.getElem?_eq_some_iff.mp h1).1)⟩
    have ih := r.marks i p y h1 hy
    rw [fire_get h1 hy] at h2
    rw [count_snoc, count_snoc, Nat.mul_add, Nat.mul_add]
    have e := Option.some.inj h2
    have he : p.other = v → p.eat ≤ y := fun z => hc i p y h1 hy z
    by_cases a : p.one = v <;> by_cases b : p.other = v
    · rw [if_pos a, if_pos b] at e
      rw [if_pos b.symm, if_pos a.symm, Nat.mul_one, Nat.mul_one]
      have := he b
      omega
    · rw [if_pos a, if_neg b] at e
      rw [if_neg fun z => b z.symm, if_pos a.symm, Nat.mul_zero, Nat.mul_one]
      omega
    · rw [if_neg a, if_pos b] at e
      rw [if_pos b.symm, if_neg fun z => a z.symm, Nat.mul_zero, Nat.mul_one]
      have := he b
      omega
    · rw [if_neg a, if_neg b] at e
      rw [if_neg fun z => b z.symm, if_neg fun z => a z.symm, Nat.mul_zero, Nat.mul_zero]
      omega
theorem keep_up {f : Flow} {r w' m' : List Nat} (F : Full f r w' m') : ∀ {u m : List Nat}, Run f u m → (∀ v, v < f.n → u.count v ≤ rv r v) → ∀ v, u.count v ≤ w'.count v
  | _, _, .nil, _, v => Nat.zero_le _
  | _, _, .snoc (w := u) (m := m) (v := x) r0 hx hc, hle, v => by
    have hle' : ∀ v, v < f.n → u.count v ≤ rv r v := fun v hv => by
      have := hle v hv
      rw [count_snoc] at this
      omega
    have ih := keep_up F r0 hle'
    rw [count_snoc]
    by_cases e : x = v
    · subst e
      rw [if_pos rfl]
      refine Classical.byContradiction fun no => ?_
      have eq : u.count x = w'.count x := by
        have := ih x
        omega
      have lt : w'.count x < rv r x := by
        have := hle x hx
        rw [count_snoc, if_pos rfl] at this
        omega
      refine F.st x hx lt fun i p y h1 h2 h3 => ?_
      obtain ⟨z, hz⟩ : ∃ z, m[i]? = some z := ⟨_, List.getElem?_eq_getElem (by rw [r0.len]; exact (List.getElem?_eq_some_iff.mp h1).1)⟩
      have a := hc i p z h1 hz h3
      have m1 := r0.marks i p z h1 hz
      have m2 := F.run.marks i p y h1 h2
      have g := Nat.mul_le_mul_left p.give (ih p.one)
      rw [h3, ← eq] at m2
      rw [h3] at m1
      omega
    · rw [if_neg e]
      exact ih v
def Live (f : Flow) (c : Nat → Nat) : Prop := ∃ w m, Run f w m ∧ ∀ v, v < f.n → w.count v = rnd f c v
theorem rv_rnd {f : Flow} {c : Nat → Nat} {v : Nat} (h : v < f.n) : rv (rndL f c) v = rnd f c v := by
  have := rv_get (r := rndL f c) (v := v) (by rw [rndL_len]; exact h)
  rw [rndL_get h] at this
  exact (Option.some.inj this).symm
theorem full_live {f : Flow} {c : Nat → Nat} {w m : List Nat} (F : Full f (rndL f c) w m) (L : Live f c) : cnt f.n w = rndL f c := by
  obtain ⟨w0, m0, r0, h0⟩ := L
  unfold cnt rndL
  refine List.map_congr_left fun v hv => ?_
  have hv := List.mem_range.mp hv
  have h1 := keep_up F r0 (fun v hv => by rw [h0 v hv, rv_rnd hv]; exact Nat.le_refl _) v
  have h2 := F.le v hv
  rw [h0 v hv] at h1
  rw [rv_rnd hv] at h2
  omega
theorem live_full {f : Flow} {c : Nat → Nat} {w m : List Nat} (F : Full f (rndL f c) w m) (e : cnt f.n w = rndL f c) : Live f c := ⟨w, m, F.run, fun v hv => by
  have h := cnt_get (w := w) hv
  rw [e, rndL_get hv] at h
  exact (Option.some.inj h).symm⟩
structure Fine (f : Flow) (c : Nat → Nat) : Prop extends Good f c where
  ok : f.Ok
  live : Live f c
theorem Good.runOk {f : Flow} {c : Nat → Nat} (G : Good f c) : RunOk (f, rndL f c) := ⟨by have := G.n; dsimp only; omega, G.ps, rndL_len f c, by have := rndL_sum G; have := G.n; dsimp only; omega⟩
section
variable {P : Program} {w : World} {K : PySem.W.Frag} {mg : PySem.Str → Option Value} {base : Heap}
theorem sc_lives : FnScope ["flow"] ["flow"] (defScope s_lives) := ⟨rfl, rfl, rfl, by decide +kernel, rfl, by decide +kernel, by decide +kernel⟩
abbrev spLives : Sp := spA eFC (fun x => Fine x.1 x.2) (fun _ r => r = .bool true)
theorem ok_lives (T : Tx mg) (F : Df K mg "lives" s_lives) (c_does : Cal P w K mg base 3 "does" spDoes []) (c_round_of : Cal P w K mg base 6 "round_of" spReps []) : Cal P w K mg base 7 "lives" spLives [] := by
  refine calA _ _ _ F sc_lives rfl (by decide) (fun _ => rfl) (fun _ _ _ _ _ _ us hl => match us, hl with | [_], _ => rfl) fun f cdv A outer s H E hr => ⟨_,
    (pss_one (ps_ret (pe_c c_does hr (by decide) (by rfl) (pa_cons (pv 0) (pa_cons (pe_c c_round_of hr (by decide) (by rfl) (pa_cons (pv 0) pa_nil)) pa_nil))))), fun F0 x hx => ?_⟩
  obtain ⟨f, c⟩ := x
  have G : Fine f c := hx
  refine wp_ret (ev_callA (f, rndL f c) (ea_cons (ev_var rfl) (ea_cons (ev_callA (f, c) (ea_cons (ev_var rfl) ea_nil) rfl G.toGood) ea_nil)) rfl G.toGood.runOk) fun d ⟨w, m, F, e⟩ => ?_
  rw [e]
  exact congrArg PyData.bool (decide_eq_true (full_live F G.live))
theorem sc_need_live : FnScope ["flow"] ["flow"] (defScope s_need_live) := ⟨rfl, rfl, rfl, by decide +kernel, rfl, by decide +kernel, by decide +kernel⟩
abbrev spNeed : Sp := spA eFC (fun x => Fine x.1 x.2) (fun _ r => r = .none)
theorem ok_need_live (T : Tx mg) (F : Df K mg "need_live" s_need_live) (c_lives : Cal P w K mg base 7 "lives" spLives []) (c_need_flow : Cal P w K mg base 3 "need_flow" spNeedFlow []) : Cal P w K mg base 8 "need_live" spNeed [] := by
  refine calA _ _ _ F sc_need_live rfl (by decide) (fun _ => rfl) (fun _ _ _ _ _ _ us hl => match us, hl with | [_], _ => rfl) fun f cdv A outer s H E hr => ⟨_,
    (pss_cons (ps_expr (pe_c c_need_flow hr (by decide) (by rfl) (pa_cons (pv 0) pa_nil)))
      (pss_one (ps_if (pt_not (pt_val (pe_c c_lives hr (by decide) (by rfl) (pa_cons (pv 0) pa_nil)))) pss_never pss_nil))), fun F0 x hx => ?_⟩
  obtain ⟨f, c⟩ := x
  have G : Fine f c := hx
  refine wp_seq (wp_drop (ev_callA f (ea_cons (ev_var rfl) ea_nil) rfl G.ok) fun _ _ => ?_)
  exact wp_noE (et_not (et_B (ev_callA (f, c) (ea_cons (ev_var rfl) ea_nil) rfl G))) rfl (wp_next rfl)
theorem sc_need_few : FnScope ["flow"] ["flow"] (defScope s_need_few) := ⟨rfl, rfl, rfl, by decide +kernel, rfl, by decide +kernel, by decide +kernel⟩
theorem ok_need_few (T : Tx mg) (F : Df K mg "need_few" s_need_few) (c_need_live : Cal P w K mg base 8 "need_live" spNeed []) (c_round_of : Cal P w K mg base 6 "round_of" spReps []) : Cal P w K mg base 9 "need_few" spNeed [] := by
  refine calA _ _ _ F sc_need_few rfl (by decide) (fun _ => rfl) (fun _ _ _ _ _ _ us hl => match us, hl with | [_], _ => rfl) fun f cdv A outer s H E hr => ⟨_,
    (pss_cons (ps_expr (pe_c c_need_live hr (by decide) (by rfl) (pa_cons (pv 0) pa_nil)))
      (pss_one (ps_if (pt_cmpR op_gt (pe_callB (cr_sum rfl) (by rfl) T.m_sum (by decide +kernel) (pa_cons (pe_c c_round_of hr (by decide) (by rfl) (pa_cons (pv 0) pa_nil)) pa_nil)) (pe_gc (by rfl) T.c_MOST_FIRINGS) (nomark _)) pss_never pss_nil))), fun F0 x hx => ?_⟩
  obtain ⟨f, c⟩ := x
  have G : Fine f c := hx
  have hs := rndL_sum G.toGood
  have hn := G.ok.n
  refine wp_seq (wp_drop (ev_callA (f, c) (ea_cons (ev_var rfl) ea_nil) rfl G) fun _ _ => ?_)
  refine wp_noE (et_test (ev_op (ev_cb (ea_cons (ev_callA (f, c) (ea_cons (ev_var rfl) ea_nil) rfl G.toGood) ea_nil) cd_sumN) ev_int opd_gt)) (decide_eq_false (by show ¬ (120 : Int) < ((rndL f c).sum : Nat); omega)) (wp_next rfl)
theorem sc_need_times : FnScope ["flow", "times", "index", "one"] ["flow", "times"] (defScope s_need_times) := ⟨rfl, rfl, rfl, by decide +kernel, rfl, by decide +kernel, by decide +kernel⟩
structure TimesOk (f : Flow) (ts : List Nat) : Prop where
  len : ts.length = f.n
  ok : ∀ t ∈ ts, 1 ≤ t ∧ t ≤ 99
abbrev spNeedT : Sp := spA (fun x : Flow × List Nat => [flowD x.1, marksD x.2]) (fun x => TimesOk x.1 x.2) (fun _ r => r = .none)
theorem ok_need_times (T : Tx mg) (F : Df K mg "need_times" s_need_times) (c_is_in : Cal P w K mg base 1 "is_in" spIsIn []) : Cal P w K mg base 2 "need_times" spNeedT [] := by
  refine calA _ _ _ F sc_need_times rfl (by decide) (fun _ => rfl) (fun _ _ _ _ _ _ us hl => match us, hl with | [_, _], _ => rfl) fun f cdv A outer s H E hr => ⟨_,
    (pss_cons (ps_if (PW.pt (pw_or (pt_not (pt_val (pe_callB call_isi (by rfl) T.m_isinstance (by decide +kernel) (pa_cons (pv 1) (pa_cons (pe_bltn (v := .ty "tuple") (by rfl) T.m_tuple (by decide +kernel) rfl) pa_nil))))) (pw_or1 (pt_cmpR (op_neD (hu64 hr)) (pe_callB call_len_seq (by rfl) T.m_len PySem.boot_len (pa_cons (pv 1) pa_nil)) (pe_ix ix_seq (pv 0) pe_int (fun _ _ => rfl)) (nomark _))))) pss_never pss_nil)
      (pss_one (ps_for PassesOwn.never rfl (pi_enumT (by rfl) T.m_enumerate (pa_cons (pv 1) pa_nil)) (pg_tup rfl (pgs_cons (pg_name (i := 2) sc_need_times.nd rfl (.inl rfl)) (pgs_cons (pg_name (i := 3) sc_need_times.nd rfl (.inl rfl)) pgs_nil))) (pss_one (ps_if (pt_not (pt_val (pe_c c_is_in hr (by decide) (by rfl) (pa_cons (pv 3) (pa_cons pe_int (pa_cons (pe_gc (by rfl) T.c_MOST_DURATION) pa_nil)))))) pss_never pss_nil))))), fun F0 x hx => ?_⟩
  obtain ⟨f, ts⟩ := x
  obtain ⟨h1, h2⟩ := hx
  simp only at h1 h2
  show Wp _ _ ([.im (flowD f), .im (marksD ts)] ++ List.replicate _ .un) _
  refine wp_seq (wp_noE (et_or (et_not (et_B (ev_isi (ev_var rfl) kit_tt))) fun _ => et_neI (ev_cb (ea_cons (ev_var rfl) ea_nil) cd_lenT) (ev_op (ev_var rfl) ev_int (opd_ixT rfl))) (by rw [List.length_map, h1]; simp) (wp_next ?_))
  refine wp_forET (fun _ Γ => ∃ s t, Γ = [.im (flowD f), .im (marksD ts), s, t]) (ea_cons (ev_var rfl) ea_nil) ⟨_, _, rfl⟩ (fun i d Γ' hd ⟨s, t, e⟩ => ?_) (fun Γ' ⟨s, t, e⟩ => rfl)
  subst e
  obtain ⟨t, ht, rfl⟩ := map_get hd
  have := h2 t (List.mem_of_getElem? ht)
  refine tg_tup rfl (bts_name (bts_name (bts_nil ?_)))
  exact wp_noE (et_not (et_B (ev_isin (ev_var rfl) ev_int ev_int (by omega)))) rfl (wp_next ⟨_, _, rfl⟩)
theorem sc_need_timed : FnScope ["flow", "times"] ["flow", "times"] (defScope s_need_timed) := ⟨rfl, rfl, rfl, by decide +kernel, rfl, by decide +kernel, by decide +kernel⟩
abbrev eFCT (x : Flow × (Nat → Nat) × List Nat) : List PyData := [flowD x.1, marksD x.2.2]
abbrev spTimed : Sp := spA eFCT (fun x => Fine x.1 x.2.1 ∧ TimesOk x.1 x.2.2) (fun _ r => r = .none)
theorem ok_need_timed (T : Tx mg) (F : Df K mg "need_timed" s_need_timed) (c_need_few : Cal P w K mg base 9 "need_few" spNeed []) (c_need_times : Cal P w K mg base 2 "need_times" spNeedT []) : Cal P w K mg base 10 "need_timed" spTimed [] := by
  refine calA _ _ _ F sc_need_timed rfl (by decide) (fun _ => rfl) (fun _ _ _ _ _ _ us hl => match us, hl with | [_, _], _ => rfl) fun f cdv A outer s H E hr => ⟨_,
    (pss_cons (ps_expr (pe_c c_need_few hr (by decide) (by rfl) (pa_cons (pv 0) pa_nil)))
      (pss_one (ps_expr (pe_c c_need_times hr (by decide) (by rfl) (pa_cons (pv 0) (pa_cons (pv 1) pa_nil)))))), fun F0 x hx => ?_⟩
  obtain ⟨f, c, ts⟩ := x
  have G : Fine f c ∧ TimesOk f ts := hx
  refine wp_seq (wp_drop (ev_callA (f, c) (ea_cons (ev_var rfl) ea_nil) rfl G.1) fun _ _ => ?_)
  exact wp_drop (ev_callA (f, ts) (ea_cons (ev_var rfl) (ea_cons (ev_var rfl) ea_nil)) rfl G.2) fun _ _ => rfl
end
end Dl
set_option Elab.async false
set_option linter.all false
set_option maxRecDepth 100000
set_option maxHeartbeats 1000000
/-! Walks 13: steps. -/
namespace Dl
open PySem PySem.Spec PyProof.Rows L2 C8 Rf
structure Step where
  a : Nat
  k : Nat
  b : Nat
  l : Nat
  lag : Int
abbrev nodeD (b k : Nat) : PyData := .tuple [.int (b : Nat), .int (k : Nat)]
abbrev stepD (s : Step) : PyData := .tuple [nodeD s.a s.k, nodeD s.b s.l, .int s.lag]
noncomputable instance : DecidableEq Step := fun _ _ => Classical.propDecidable _
theorem stepD_inj (s t : Step) (h : stepD s = stepD t) : s = t := by
  obtain ⟨a, k, b, l, g⟩ := s
  obtain ⟨a', k', b', l', g'⟩ := t
  simp only [stepD, nodeD, PyData.tuple.injEq, List.cons.injEq, PyData.int.injEq, and_true] at h
  obtain ⟨⟨h1, h2⟩, ⟨h3, h4⟩, h5⟩ := h
  have : a = a' := by omega
  have : k = k' := by omega
  have : b = b' := by omega
  have : l = l' := by omega
  subst_vars
  rfl
theorem nk_inj {s t : Step} (h : nkOf (stepD s) = nkOf (stepD t)) : s = t := by
  obtain ⟨a, k, b, l, g⟩ := s
  obtain ⟨a', k', b', l', g'⟩ := t
  simp only [stepD, nodeD, nkOf, nksOf, NestedKey.tup.injEq, NestedKey.num.injEq, List.cons.injEq, and_true] at h
  obtain ⟨⟨h1, h2⟩, ⟨h3, h4⟩, h5⟩ := h
  have : a = a' := by omega
  have : k = k' := by omega
  have : b = b' := by omega
  have : l = l' := by omega
  subst_vars
  rfl
theorem eqv_node (a k b l : Nat) : PyData.eqv (nodeD a k) (nodeD b l) = decide (a = b ∧ k = l) := by
  show (PyData.eqv (.int (a : Nat)) (.int (b : Nat)) && (PyData.eqv (.int (k : Nat)) (.int (l : Nat)) && true)) = _
  rw [eqv_int, eqv_int, natEq, natEq, Bool.and_true]
  by_cases h : a = b <;> by_cases h' : k = l <;> simp [h, h']
theorem eqv_step (s t : Step) : PyData.eqv (stepD s) (stepD t) = decide (s = t) := by
  obtain ⟨a, k, b, l, g⟩ := s
  obtain ⟨a', k', b', l', g'⟩ := t
  show (PyData.eqv (nodeD a k) (nodeD a' k') && (PyData.eqv (nodeD b l) (nodeD b' l') && (PyData.eqv (.int g) (.int g') && true))) = _
  rw [eqv_node, eqv_node, eqv_int, Bool.and_true]
  by_cases h : a = a' ∧ k = k' <;> by_cases h' : b = b' ∧ l = l' <;> by_cases h2 : g = g' <;> simp [h, h', h2, and_assoc] <;> grind
theorem any_steps (L : List Step) (s : Step) : ((L.map stepD).any fun z => PyData.eqv z (stepD s)) = decide (s ∈ L) := by
  induction L with
  | nil => simp
  | cons t L ih =>
    show (PyData.eqv (stepD t) (stepD s) || (L.map stepD).any _) = _
    rw [ih, eqv_step]
    by_cases h : s = t
    · simp [h]
    · have : ¬ t = s := fun e => h e.symm
      simp [h, this]
theorem pl_step (s : Step) : Pl 2 (stepD s) = true := rfl
theorem pl_steps (L : List Step) : Pl 3 (.list (L.map stepD)) = true := by simp [Pl]
theorem tp_step (s : Step) : Tp 7 (stepD s) = true := rfl
theorem srt_steps (L : List Step) : SrtOk (L.map stepD) := by
  refine ⟨W.AllAlike.of fun s t => ?_, fun d hd => ?_⟩
  · simp [W.alike, W.alikeAll]
  · obtain ⟨s, _, rfl⟩ := List.mem_map.mp hd
    exact ⟨rfl, _, _, rfl⟩
theorem unperm {α β : Type} {f : α → β} : ∀ {es xs : List β}, es.Perm xs → ∀ L : List α, xs = L.map f → ∃ L' : List α, L'.Perm L ∧ es = L'.map f := by
  intro es xs h
  induction h with
  | nil => intro L e; exact ⟨[], by have := List.map_eq_nil_iff.mp e.symm; rw [this], rfl⟩
  | cons x _ ih =>
    intro L e
    cases L with
    | nil => cases e
    | cons a L =>
      rw [List.map_cons] at e
      injection e with e1 e2
      obtain ⟨L', p, e3⟩ := ih L e2
      exact ⟨a :: L', p.cons a, by rw [List.map_cons, e1, e3]⟩
  | swap x y l =>
    intro L e
    match L, e with
    | a :: b :: L, e =>
      simp only [List.map_cons] at e
      injection e with e1 e2
      injection e2 with e2 e3
      exact ⟨b :: a :: L, List.Perm.swap a b L, by rw [List.map_cons, List.map_cons, e1, e2, e3]⟩
  | trans _ _ ih1 ih2 =>
    intro L e
    obtain ⟨L2, p2, e2⟩ := ih2 L e
    obtain ⟨L1, p1, e1⟩ := ih1 L2 e2
    exact ⟨L1, p1.trans p2, e1⟩
abbrev keyE (s : Step) : PyData × PyData := (stepD s, .bool true)
theorem nput_step (L : List Step) (s : Step) (hn : L.Nodup) : ∃ L' : List Step, nput (L.map keyE) (stepD s) (.bool true) = L'.map keyE ∧ L'.Nodup ∧ (∀ t, t ∈ L' ↔ t ∈ L ∨ t = s) ∧ L'.length ≤ L.length + 1 := by
  unfold nput
  have em : nkOf (stepD s) ∈ (L.map keyE).map (fun p => nkOf p.1) ↔ s ∈ L := by
    rw [List.map_map, List.mem_map]
    constructor
    · rintro ⟨t, ht, e⟩
      rw [← nk_inj e]
      exact ht
    · intro h
      exact ⟨s, h, rfl⟩
  by_cases h : s ∈ L
  · rw [if_pos (em.mpr h)]
    refine ⟨L, ?_, hn, fun t => ⟨.inl, fun z => z.elim id fun e => by rw [e]; exact h⟩, by omega⟩
    rw [List.map_map]
    refine List.map_congr_left fun t _ => ?_
    show (if nkOf (stepD t) = nkOf (stepD s) then (stepD t, PyData.bool true) else keyE t) = keyE t
    split <;> rfl
  · rw [if_neg fun z => h (em.mp z)]
    refine ⟨L ++ [s], by rw [List.map_append]; rfl, List.nodup_append.mpr ⟨hn, by simp, fun a ha d hd z => h (by simp at hd; rw [← hd, ← z]; exact ha)⟩, fun t => by simp, by simp⟩
/-! ### what a firing waits for -/
def needN (p : Pipe) (k : Nat) : Int := -(Int.fdiv ((p.start : Int) - ((k : Int) + 1) * p.eat) p.give) - 1
noncomputable def needS (f : Flow) (c : Nat → Nat) (p : Pipe) (k : Nat) : Step := ⟨p.one, ((needN p k).fmod (rnd f c p.one : Nat)).toNat, p.other, k, -((needN p k).fdiv (rnd f c p.one : Nat))⟩
noncomputable def ownS (f : Flow) (c : Nat → Nat) (b k : Nat) : Step := if 0 < k then ⟨b, k - 1, b, k, 0⟩ else ⟨b, rnd f c b - 1, b, 0, 1⟩
def InNeeds (f : Flow) (c : Nat → Nat) (s : Step) : Prop := ∃ p ∈ f.ps, ∃ k, k < rnd f c p.other ∧ s = needS f c p k
def InOwn (f : Flow) (c : Nat → Nat) (s : Step) : Prop := ∃ b, b < f.n ∧ ∃ k, k < rnd f c b ∧ s = ownS f c b k
section
variable {B : Bs} {Γ : List Sk}
theorem evs_listP {K : PySem.W.Frag} {t : TA} {Ps : List PyData → Prop} (h : EaP B t Γ (fun xs => ∃ ds, xs = [.list ds] ∧ Ps ds)) :
    EvS B (tCB (fun xs H Q => ∃ p ys, xs = [.ref p] ∧ (SqL K H p ys ∨ SqT K H p ys) ∧ ∀ l, H l = none → Q (.ref l) (upd H l (.lst ys))) t) Γ (fun s => ∃ ds, s = .ml ds ∧ Ps ds) := fun F H σ o Q q => by
  refine h F H σ o _ fun d0 vs F1 H1 ⟨ds, e, ps⟩ g1 r1 hv => ?_
  subst e
  obtain ⟨v, rfl, hv2⟩ := hv.one
  obtain ⟨a, ys, rfl, ha, r⟩ := hv2.lst_inv
  refine ⟨a, ys, rfl, .inl (SqL.of (g1.fh _ _ ha)), fun p np => ?_⟩
  obtain ⟨n1, n2, n3⟩ := none_A (o.grow g1 r1) np
  have g4 : Gr [] F1 H1 F1 _ := Gr.own (o := .lst ys) g1.fh np
  refine q (.ml ds) (.ref p) F1 _ ⟨ds, rfl, ps⟩ (g1.trans (g4.weak fun _ h => nomatch h)) (fun a ha => (r1 a ha).gr0 g4) ⟨p, _, rfl, n1, n2, n3, upd_same, r⟩ fun _ => ⟨p, rfl, ?_⟩
  cases e : H p with
  | none => rfl
  | some u => exact absurd np (g1.tt p (by rw [e]; exact fun z => nomatch z))
theorem ev_ixN {K : PySem.W.Frag} {ta tb : TE} {xs : List Nat} {i : Nat} {x : Nat} (ha : Ev B ta Γ (.list (natsD xs))) (hb : Ev B tb Γ (.int (i : Nat))) (h : xs[i]? = some x) : Ev B (tOp (rIx K) ta tb) Γ (.int (x : Nat)) := ev_ixLm (enc := fun c : Nat => PyData.int (c : Nat)) ha hb h
theorem ev_ixNT {K : PySem.W.Frag} {ta tb : TE} {xs : List Nat} {i : Nat} {x : Nat} (ha : Ev B ta Γ (.tuple (natsD xs))) (hb : Ev B tb Γ (.int (i : Nat))) (h : xs[i]? = some x) : Ev B (tOp (rIx K) ta tb) Γ (.int (x : Nat)) := ev_ixTm (enc := fun c : Nat => PyData.int (c : Nat)) ha hb h
theorem eap_one {ta : TE} {Pa : PyData → Prop} (h : EvP B ta Γ Pa) : EaP B (tCons ta tNil) Γ (fun xs => ∃ d, xs = [d] ∧ Pa d) := eap_cons h (fun _ _ => ea_nil) fun d ds p e => ⟨d, by rw [e], p⟩
end
section
variable {P : Program} {w : World} {K : PySem.W.Frag} {mg : PySem.Str → Option Value} {base : Heap}
theorem sc_needed : FnScope ["pipe", "number", "one", "other", "give", "eat", "start"] ["pipe", "number"] (defScope s_needed) := ⟨rfl, rfl, rfl, by decide +kernel, rfl, by decide +kernel, by decide +kernel⟩
def preNeeded (x : Pipe × Nat) : Prop := (1 ≤ x.1.give ∧ x.1.give ≤ 8) ∧ x.1.eat ≤ 8
abbrev spNeeded : Sp := spA (fun x : Pipe × Nat => [pipeD x.1, .int (x.2 : Nat)]) preNeeded (fun x r => r = .int (needN x.1 x.2))
theorem ok_needed (T : Tx mg) (F : Df K mg "needed" s_needed) : Cal P w K mg base 1 "needed" spNeeded [] := by
  refine calA _ _ _ F sc_needed rfl (by decide) (fun _ => rfl) (fun _ _ _ _ _ _ us hl => match us, hl with | [_, _], _ => rfl) fun f cdv A outer s H E hr => ⟨_,
    (pss_cons (ps_asg (pv 0) (pg_tup rfl (pgs_cons (pg_name (i := 2) sc_needed.nd rfl (.inl rfl)) (pgs_cons (pg_name (i := 3) sc_needed.nd rfl (.inl rfl)) (pgs_cons (pg_name (i := 4) sc_needed.nd rfl (.inl rfl)) (pgs_cons (pg_name (i := 5) sc_needed.nd rfl (.inl rfl)) (pgs_cons (pg_name (i := 6) sc_needed.nd rfl (.inl rfl)) pgs_nil)))))))
      (pss_one (ps_ret (pe_op op_sub (pe_un un_neg (pe_op op_fdivN (pe_op op_sub (pv 6) (pe_op op_mul (pe_op op_add (pv 1) pe_int) (pv 5))) (pv 4))) pe_int)))), fun F0 x hx => ?_⟩
  obtain ⟨p, k⟩ := x
  obtain ⟨h1, h2⟩ := hx
  simp only at h1 h2
  show Wp _ _ ([.im (pipeD p), .im (.int (k : Nat))] ++ List.replicate _ .un) _
  refine wp_seq (wp_asgG (ev_var rfl) fun d e => ?_)
  subst e
  refine tg_tup rfl (bts_name (bts_name (bts_name (bts_name (bts_name (bts_nil ?_))))))
  exact wp_retD (ev_op (ev_neg (ev_op (ev_op (ev_var rfl) (ev_op (ev_op (ev_var rfl) ev_int opd_add) (ev_var rfl) (opd_mul (.inr ⟨by omega, by omega⟩))) opd_sub) (ev_var rfl) (opd_fdiv ⟨by omega, by omega⟩))) ev_int opd_sub) rfl
theorem sc_needs_in : FnScope ["flow", "rounds", "found", "pipe", "one", "other", "k", "number"] ["flow"] (defScope s_needs_in) := ⟨rfl, rfl, rfl, by decide +kernel, rfl, by decide +kernel, by decide +kernel⟩
def NeedsPost (x : Flow × (Nat → Nat)) (r : PyData) : Prop := ∃ L : List Step, r = .list (L.map stepD) ∧ (∀ s, s ∈ L ↔ InNeeds x.1 x.2 s) ∧ L.length ≤ 16
abbrev spNeeds : Sp := spA eFC (fun x => Good x.1 x.2 ∧ x.1.ps.length ≤ 4) NeedsPost
theorem ok_needs_in (T : Tx mg) (F : Df K mg "needs_in" s_needs_in) (c_needed : Cal P w K mg base 1 "needed" spNeeded []) (c_round_of : Cal P w K mg base 6 "round_of" spReps []) : Cal P w K mg base 7 "needs_in" spNeeds [] := by
  refine calA _ _ _ F sc_needs_in rfl (by decide) (fun _ => rfl) (fun _ _ _ _ _ _ us hl => match us, hl with | [_], _ => rfl) fun f cdv A outer s H E hr => ⟨_,
    (pss_cons (ps_par (i := 1) (j := 2) (by rfl) sc_needs_in.nd rfl rfl (by decide) rfl rfl (pa_cons (pe_c c_round_of hr (by decide) (by rfl) (pa_cons (pv 0) pa_nil)) (pa_cons pe_dnewN pa_nil)) (by rfl))
      (pss_cons (ps_for PassesOwn.never rfl (pi_tup (pe_ix ix_seq (pv 0) pe_int (fun _ _ => rfl))) (pg_name (i := 3) sc_needs_in.nd rfl (.inl rfl)) (pss_cons (ps_asg (pe_slice sl_tupA (pv 3) po_none (po_some pe_int)) (pg_tup rfl (pgs_cons (pg_name (i := 4) sc_needs_in.nd rfl (.inl rfl)) (pgs_cons (pg_name (i := 5) sc_needs_in.nd rfl (.inl rfl)) pgs_nil))))
      (pss_one (ps_for PassesOwn.never rfl (pi_range1 (by rfl) T.m_range (pa_cons (pe_ix ix_seq (pv 1) (pv 5) (fun _ _ => rfl)) pa_nil)) (pg_name (i := 6) sc_needs_in.nd rfl (.inl rfl)) (pss_cons (ps_set (i := 7) sc_needs_in.nd rfl (.inl rfl) (pe_c c_needed hr (by decide) (by rfl) (pa_cons (pv 3) (pa_cons (pv 6) pa_nil))))
      (pss_one (ps_asg pe_bl (pg_sub (pv 2) (pe_tup (pa_cons (pe_tup (pa_cons (pv 4) (pa_cons (pe_op op_modN (pv 7) (pe_ix ix_seq (pv 1) (pv 4) (fun _ _ => rfl))) pa_nil))) (pa_cons (pe_tup (pa_cons (pv 5) (pa_cons (pv 6) pa_nil))) (pa_cons (pe_un un_neg (pe_op op_fdivN (pv 7) (pe_ix ix_seq (pv 1) (pv 4) (fun _ _ => rfl)))) pa_nil)))) (set_dn (hu65 hr))))))))))
      (pss_one (ps_ret (pe_sortKeys hr (pv 2) (by rfl) T.m_sorted))))), fun F0 x hx => ?_⟩
  obtain ⟨f, c⟩ := x
  obtain ⟨G, h4⟩ : Good f c ∧ f.ps.length ≤ 4 := hx
  have h1 := G.n
  show Wp _ _ ([.im (flowD f)] ++ List.replicate _ .un) _
  refine wp_seq (wp_par (Ps := fun ss => ss = [.im (.list (natsD (rndL f c))), .dn []]) (es_cons (evs_d (ev_callA (f, c) (ea_cons (ev_var rfl) ea_nil) rfl G)) (es_cons (evs_dn (B := ⟨P, w, K, [], F0, H⟩)) esp_nil)) fun ss e => ⟨_, _, e, ?_⟩)
  refine wp_seq (wp_forT (fun i Γ => ∃ L s3 s4 s5 s6 s7, Γ = [.im (flowD f), .im (.list (natsD (rndL f c))), .dn (L.map keyE), s3, s4, s5, s6, s7] ∧ L.Nodup ∧ (∀ s, s ∈ L ↔ ∃ p ∈ f.ps.take i, ∃ k, k < rnd f c p.other ∧ s = needS f c p k) ∧ L.length ≤ 4 * i) (ev_op (ev_var rfl) ev_int (opd_ixT rfl))
    ⟨[], _, _, _, _, _, rfl, List.nodup_nil, fun s => ⟨fun z => (nomatch z), fun ⟨p, hp, _⟩ => by rw [List.take_zero] at hp; cases hp⟩, Nat.le_refl _⟩ (fun i d Γ' hd ⟨L, s3, s4, s5, s6, s7, e, nd, me, ll⟩ => ?_) (fun Γ' ⟨L, s3, s4, s5, s6, s7, e, nd, me, ll⟩ => ?_))
  · subst e
    obtain ⟨p, hp, rfl⟩ := map_get hd
    have pm := List.mem_of_getElem? hp
    have pe := G.ends p pm
    have pr := G.rate p pm
    have ri := List.getElem?_eq_some_iff.mp hp
    have il : i < f.ps.length := ri.1
    have r1 := rnd_bd G pe.1
    have r2 := rnd_bd G pe.2
    have sl : ∀ {B : Bs} {Γ : List Sk}, Γ[3]? = some (.im (pipeD p)) → Ev B (tSl (rSlA K) (tVar 3) tNoPart (tPart (tC (.int 2)))) Γ (.tuple [.int (p.one : Nat), .int (p.other : Nat)]) := fun h => ev_sliceT (ev_var h) eo_no (eo_part ev_int)
    refine tg_name (wp_seq (wp_asgG (sl rfl) fun d e => ?_))
    subst e
    refine tg_tup rfl (bts_name (bts_name (bts_nil ?_)))
    refine wp_forR1 (n := (rnd f c p.other : Nat)) (Pn := fun _ => True) (fun j Γ => ∃ L s6 s7, Γ = [.im (flowD f), .im (.list (natsD (rndL f c))), .dn (L.map keyE), .im (pipeD p), .im (.int (p.one : Nat)), .im (.int (p.other : Nat)), s6, s7] ∧ L.Nodup ∧ (∀ s, s ∈ L ↔ (∃ p ∈ f.ps.take i, ∃ k, k < rnd f c p.other ∧ s = needS f c p k) ∨ ∃ k, k < j ∧ s = needS f c p k) ∧ L.length ≤ 4 * i + j)
      (ea_cons (ev_ixN (ev_var rfl) (ev_var rfl) (rndL_get pe.2)) ea_nil) (by omega) ⟨L, _, _, rfl, nd, fun s => by rw [me]; exact ⟨.inl, fun z => z.elim id fun ⟨k, hk, _⟩ => absurd hk (Nat.not_lt_zero k)⟩, by omega⟩ (fun j Γ' hj ⟨L, s6, s7, e, nd, me, ll⟩ => ?_) (fun Γ' ⟨L, s6, s7, e, nd, me, ll⟩ => ?_)
    · subst e
      have hj : j < rnd f c p.other := by omega
      refine tg_name (wp_seq (wp_set (d := .int (needN p j)) (ev_callA (p, j) (ea_cons (ev_var rfl) (ea_cons (ev_var rfl) ea_nil)) rfl (by exact ⟨pr.1, pr.2.2⟩)) ?_))
      refine wp_asgG ev_bl fun d e => ?_
      subst e
      obtain ⟨L', e', nd', me', ll'⟩ := nput_step L (needS f c p j) nd
      have fm : (0 : Int) ≤ (needN p j).fmod (rnd f c p.one : Nat) := Int.fmod_nonneg_of_pos _ (by omega)
      refine tg_sub (i := 2) (kd := stepD (needS f c p j)) (s' := .dn (L'.map keyE)) rfl rfl rfl ?_ (by rw [← e']; exact sd_dn (by rw [List.length_map]; omega) rfl ⟨_, rfl⟩ fun q hq => by obtain ⟨s, _, rfl⟩ := List.mem_map.mp hq; rfl) ⟨L', _, _, rfl, nd', fun s => ?_, by omega⟩
      · refine ev_eq (ev_tup (ea_cons (ev_tup (ea_cons (ev_var rfl) (ea_cons (ev_op (ev_var rfl) (ev_ixN (ev_var rfl) (ev_var rfl) (rndL_get pe.1)) (opd_mod (by omega))) ea_nil))) (ea_cons (ev_tup (ea_cons (ev_var rfl) (ea_cons (ev_var rfl) ea_nil))) (ea_cons (ev_neg (ev_op (ev_var rfl) (ev_ixN (ev_var rfl) (ev_var rfl) (rndL_get pe.1)) (opd_fdiv ⟨by omega, by omega⟩))) ea_nil)))) ?_
        show PyData.tuple [.tuple [_, .int ((needN p j).fmod (rnd f c p.one : Nat))], _, _] = PyData.tuple [.tuple [_, .int (((needN p j).fmod (rnd f c p.one : Nat)).toNat : Nat)], _, _]
        rw [Int.toNat_of_nonneg fm]
        rfl
      · rw [me', me]
        constructor
        · rintro ((h | ⟨k, hk, e⟩) | e)
          · exact .inl h
          · exact .inr ⟨k, by omega, e⟩
          · exact .inr ⟨j, by omega, e⟩
        · rintro (h | ⟨k, hk, e⟩)
          · exact .inl (.inl h)
          · by_cases z : k = j
            · rw [z] at e; exact .inr e
            · exact .inl (.inr ⟨k, by omega, e⟩)
    · subst e
      rw [Int.toNat_natCast] at me ll
      refine ⟨L, _, _, _, _, _, rfl, nd, fun s => ?_, by omega⟩
      rw [me, List.take_add_one, hp]
      constructor
      · rintro (⟨q, hq, h⟩ | ⟨k, hk, e⟩)
        · exact ⟨q, List.mem_append_left _ hq, h⟩
        · exact ⟨p, by simp, k, hk, e⟩
      · rintro ⟨q, hq, k, hk, e⟩
        rcases List.mem_append.mp hq with z | z
        · exact .inl ⟨q, z, k, hk, e⟩
        · have : q = p := by simpa using z
          subst this
          exact .inr ⟨k, hk, e⟩
  · subst e
    rw [List.length_map] at me ll
    rw [List.take_length] at me
    refine wp_ret (evp_sortK (i := 2) (kvs := L.map keyE) rfl ?_ (by rw [List.length_map]; omega)) fun d ⟨es, e, pm⟩ => ?_
    · rw [List.map_map]
      exact srt_steps L
    · rw [List.map_map] at pm
      obtain ⟨L', pm', e'⟩ := unperm pm L rfl
      exact ⟨L', by rw [e, e']; rfl, fun s => by rw [pm'.mem_iff, me]; rfl, by rw [pm'.length_eq]; omega⟩
theorem sc_steps_in : FnScope ["flow", "found", "box", "count", "k", "step"] ["flow"] (defScope s_steps_in) := ⟨rfl, rfl, rfl, by decide +kernel, rfl, by decide +kernel, by decide +kernel⟩
def StepsPost (x : Flow × (Nat → Nat)) (r : PyData) : Prop := ∃ L : List Step, r = .list (L.map stepD) ∧ (∀ s, s ∈ L ↔ InNeeds x.1 x.2 s ∨ InOwn x.1 x.2 s) ∧ L.length ≤ 28
abbrev spSteps : Sp := spA eFC (fun x => Good x.1 x.2 ∧ x.1.ps.length ≤ 4 ∧ x.1.n ≤ 3) StepsPost
theorem steps_app (L : List Step) (s : Step) : L.map stepD ++ [stepD s] = (L ++ [s]).map stepD := by rw [List.map_append]; rfl
theorem sum_take {l : List Nat} {i x : Nat} (h : l[i]? = some x) : (l.take (i + 1)).sum = (l.take i).sum + x := by
  rw [List.take_add_one, h, List.sum_append]
  simp
theorem ok_steps_in (T : Tx mg) (F : Df K mg "steps_in" s_steps_in) (c_needs_in : Cal P w K mg base 7 "needs_in" spNeeds []) (c_round_of : Cal P w K mg base 6 "round_of" spReps []) : Cal P w K mg base 8 "steps_in" spSteps [] := by
  refine calA _ _ _ F sc_steps_in rfl (by decide) (fun _ => rfl) (fun _ _ _ _ _ _ us hl => match us, hl with | [_], _ => rfl) fun f cdv A outer s H E hr => ⟨_,
    (pss_cons (ps_set (i := 1) sc_steps_in.nd rfl (.inl rfl) (pe_callTy call_list_of (by rfl) T.m_list (by decide +kernel) (pa_cons (pe_c c_needs_in hr (by decide) (by rfl) (pa_cons (pv 0) pa_nil)) pa_nil)))
      (pss_cons (ps_for PassesOwn.never rfl (pi_enum (by rfl) T.m_enumerate (pa_cons (pe_c c_round_of hr (by decide) (by rfl) (pa_cons (pv 0) pa_nil)) pa_nil)) (pg_tup rfl (pgs_cons (pg_name (i := 2) sc_steps_in.nd rfl (.inl rfl)) (pgs_cons (pg_name (i := 3) sc_steps_in.nd rfl (.inl rfl)) pgs_nil))) (pss_one (ps_for PassesOwn.never rfl (pi_range1 (by rfl) T.m_range (pa_cons (pv 3) pa_nil)) (pg_name (i := 4) sc_steps_in.nd rfl (.inl rfl)) (pss_cons (ps_set (i := 5) sc_steps_in.nd rfl (.inl rfl) (pe_ifExp (pt_cmpR op_gt (pv 4) pe_int (nomark _)) (pe_tup (pa_cons (pe_tup (pa_cons (pv 2) (pa_cons (pe_op op_sub (pv 4) pe_int) pa_nil))) (pa_cons (pe_tup (pa_cons (pv 2) (pa_cons (pv 4) pa_nil))) (pa_cons pe_int pa_nil)))) (pe_tup (pa_cons (pe_tup (pa_cons (pv 2) (pa_cons (pe_op op_sub (pv 3) pe_int) pa_nil))) (pa_cons (pe_tup (pa_cons (pv 2) (pa_cons pe_int pa_nil))) (pa_cons pe_int pa_nil))))))
      (pss_one (ps_if (pt_cmpR (op_notInD (hu65 hr)) (pv 5) (pv 1) (by rfl)) (pss_one (ps_expr (pe_bm PySem.F.plainAttrs_list PySem.F.slot_list_append PySem.F.type_list_append mt_append (pv 1) (pa_cons (pv 5) pa_nil)))) pss_nil))))))
      (pss_one (ps_ret (pe_callB (cr_sortD hr) (by rfl) T.m_sorted (by decide +kernel) (pa_cons (pv 1) pa_nil)))))), fun F0 x hx => ?_⟩
  obtain ⟨f, c⟩ := x
  obtain ⟨G, h4, h3⟩ : Good f c ∧ f.ps.length ≤ 4 ∧ f.n ≤ 3 := hx
  show Wp _ _ ([.im (flowD f)] ++ List.replicate _ .un) _
  have hsum := rndL_sum G
  refine wp_seq (wp_asg (evs_listP (Ps := fun ds => ∃ L : List Step, ds = L.map stepD ∧ (∀ s, s ∈ L ↔ InNeeds f c s) ∧ L.length ≤ 16) (fun F H σ o Q q => eap_one (ev_callA (f, c) (ea_cons (ev_var rfl) ea_nil) rfl (by exact ⟨G, h4⟩)) F H σ o Q fun xs vs F' H' ⟨d, e, L, e2, h⟩ => q xs vs F' H' ⟨_, by rw [e, e2], L, rfl, h⟩)) fun s ⟨ds, es, L0, e0, m0, l0⟩ => ?_)
  subst es e0
  refine wp_seq (wp_forE (ds := natsD (rndL f c)) (fun i Γ => ∃ L s2 s3 s4 s5, Γ = [.im (flowD f), .ml (L.map stepD), s2, s3, s4, s5] ∧ (∀ s, s ∈ L ↔ InNeeds f c s ∨ ∃ b, b < i ∧ ∃ k, k < rnd f c b ∧ s = ownS f c b k) ∧ L.length ≤ 16 + ((rndL f c).take i).sum)
    (ea_cons (ev_callA (f, c) (ea_cons (ev_var rfl) ea_nil) rfl G) ea_nil) ⟨L0, _, _, _, _, rfl, fun s => by rw [m0]; exact ⟨.inl, fun z => z.elim id fun ⟨b, hb, _⟩ => absurd hb (Nat.not_lt_zero b)⟩, by rw [List.take_zero]; exact l0⟩ (fun i d Γ' hd ⟨L, s2, s3, s4, s5, e, me, ll⟩ => ?_) (fun Γ' ⟨L, s2, s3, s4, s5, e, me, ll⟩ => ?_))
  · subst e
    obtain ⟨r, hr', rfl⟩ := map_get hd
    have il : i < f.n := by
      have := (List.getElem?_eq_some_iff.mp hr').1
      rwa [rndL_len] at this
    have er : r = rnd f c i := by
      rw [rndL_get il] at hr'
      exact (Option.some.inj hr').symm
    subst er
    have rb := rnd_bd G il
    have st := sum_take (rndL_get (c := c) il)
    have sle : ((rndL f c).take i).sum ≤ (rndL f c).sum := by
      conv => rhs; rw [← List.take_append_drop i (rndL f c), List.sum_append]
      omega
    refine tg_tup rfl (bts_name (bts_name (bts_nil ?_)))
    refine wp_forR1 (n := (rnd f c i : Nat)) (Pn := fun _ => True) (fun j Γ => ∃ L s4 s5, Γ = [.im (flowD f), .ml (L.map stepD), .im (.int (i : Nat)), .im (.int (rnd f c i : Nat)), s4, s5] ∧ (∀ s, s ∈ L ↔ (InNeeds f c s ∨ ∃ b, b < i ∧ ∃ k, k < rnd f c b ∧ s = ownS f c b k) ∨ ∃ k, k < j ∧ s = ownS f c i k) ∧ L.length ≤ 16 + ((rndL f c).take i).sum + j)
      (ea_cons (ev_var rfl) ea_nil) (by omega) ⟨L, _, _, rfl, fun s => by rw [me]; exact ⟨.inl, fun z => z.elim id fun ⟨k, hk, _⟩ => absurd hk (Nat.not_lt_zero k)⟩, by omega⟩ (fun j Γ' hj ⟨L, s4, s5, e, me, ll⟩ => ?_) (fun Γ' ⟨L, s4, s5, e, me, ll⟩ => ?_)
    · subst e
      have hj : j < rnd f c i := by omega
      have upd : ∀ L' : List Step, (∀ s, s ∈ L' ↔ s ∈ L ∨ s = ownS f c i j) → ∀ s, s ∈ L' ↔ (InNeeds f c s ∨ ∃ b, b < i ∧ ∃ k, k < rnd f c b ∧ s = ownS f c b k) ∨ ∃ k, k < j + 1 ∧ s = ownS f c i k := fun L' h s => by
        rw [h, me]
        constructor
        · rintro ((h | ⟨k, hk, e⟩) | e)
          · exact .inl h
          · exact .inr ⟨k, by omega, e⟩
          · exact .inr ⟨j, by omega, e⟩
        · rintro (h | ⟨k, hk, e⟩)
          · exact .inl (.inl h)
          · by_cases z : k = j
            · rw [z] at e; exact .inr e
            · exact .inl (.inr ⟨k, by omega, e⟩)
      refine tg_name (wp_seq (wp_set (d := stepD (ownS f c i j)) (ev_eq (ev_if (et_test (ev_op (ev_var rfl) ev_int opd_gt)) (fun _ => ev_tup (ea_cons (ev_tup (ea_cons (ev_var rfl) (ea_cons (ev_op (ev_var rfl) ev_int opd_sub) ea_nil))) (ea_cons (ev_tup (ea_cons (ev_var rfl) (ea_cons (ev_var rfl) ea_nil))) (ea_cons ev_int ea_nil)))) (fun _ => ev_tup (ea_cons (ev_tup (ea_cons (ev_var rfl) (ea_cons (ev_op (ev_var rfl) ev_int opd_sub) ea_nil))) (ea_cons (ev_tup (ea_cons (ev_var rfl) (ea_cons ev_int ea_nil))) (ea_cons ev_int ea_nil))))) ?_) ?_))
      · unfold ownS
        by_cases z : 0 < j
        · rw [if_pos z, if_pos (by simp; exact z)]
          show PyData.tuple [.tuple [_, .int ((j : Int) - 1)], _, _] = PyData.tuple [.tuple [_, .int ((j - 1 : Nat) : Int)], _, _]
          rw [show (j : Int) - 1 = ((j - 1 : Nat) : Int) by omega]
        · rw [if_neg z, if_neg (by simp; omega)]
          show PyData.tuple [.tuple [_, .int ((rnd f c i : Int) - 1)], _, _] = PyData.tuple [.tuple [_, .int ((rnd f c i - 1 : Nat) : Int)], _, _]
          rw [show (rnd f c i : Int) - 1 = ((rnd f c i - 1 : Nat) : Int) by omega]
          rfl
      refine wp_if (etp_peek rfl (i := 1) rfl rfl (et_eq (et_test (ev_op (ev_var rfl) (ev_var rfl) (opd_notIn (pl_step _) (pl_steps L) (by decide) (by decide)))) (by rw [any_steps]))) (fun e => ?_) (fun e => wp_next ?_)
      · refine wp_append rfl (ev_var rfl) (by rw [List.length_map]; omega) fun d e => ?_
        subst e
        exact ⟨L ++ [ownS f c i j], _, _, set_ml (steps_app L _) rfl, upd _ fun s => by simp, by rw [List.length_append, List.length_singleton]; omega⟩
      · have hm : ownS f c i j ∈ L := by simpa using e.symm
        exact ⟨L, _, _, rfl, upd L fun s => ⟨.inl, fun z => z.elim id fun y => by rw [y]; exact hm⟩, by omega⟩
    · subst e
      rw [Int.toNat_natCast] at me ll
      refine ⟨L, _, _, _, _, rfl, fun s => ?_, by omega⟩
      rw [me]
      constructor
      · rintro ((h | ⟨b, hb, h⟩) | h)
        · exact .inl h
        · exact .inr ⟨b, by omega, h⟩
        · exact .inr ⟨i, by omega, h⟩
      · rintro (h | ⟨b, hb, h⟩)
        · exact .inl (.inl h)
        · by_cases z : b = i
          · rw [z] at h; exact .inr h
          · exact .inl (.inr ⟨b, by omega, h⟩)
  · subst e
    rw [List.length_map, rndL_len] at me
    rw [List.length_map, List.take_length] at ll
    refine wp_freeze (i := 1) rfl rfl (wp_ret (ev_cb (ea_cons (ev_var rfl) ea_nil) (cd_sortD (srt_steps L) (by rw [List.length_map]; omega))) fun d ⟨es, e, pm⟩ => ?_)
    obtain ⟨L', pm', e'⟩ := unperm pm L rfl
    exact ⟨L', by rw [e, e'], fun s => by rw [pm'.mem_iff, me]; rfl, by rw [pm'.length_eq]; omega⟩
end
end Dl
set_option Elab.async false
set_option linter.all false
set_option maxRecDepth 100000
set_option maxHeartbeats 1000000
/-! Walks 14: longest ways, without the program. -/
namespace Dl
open PySem PySem.Spec PyProof.Rows L2 C8 Rf
abbrev Node : Type := Nat × Nat
abbrev Step.src (s : Step) : Node := (s.a, s.k)
abbrev Step.dst (s : Step) : Node := (s.b, s.l)
inductive Walk : Node → List Step → Node → Prop
  | nil (u : Node) : Walk u [] u
  | cons {s : Step} {R : List Step} {v : Node} : Walk s.dst R v → Walk s.src (s :: R) v
theorem Walk.append {u v x : Node} {R R' : List Step} (h : Walk u R v) (h' : Walk v R' x) : Walk u (R ++ R') x := by
  induction h with
  | nil => exact h'
  | cons _ ih => exact .cons (ih h')
theorem Walk.inv {u v : Node} {s : Step} {R : List Step} (h : Walk u (s :: R) v) : u = s.src ∧ Walk s.dst R v := by
  cases h with
  | cons h => exact ⟨rfl, h⟩
theorem Walk.split {v : Node} {R' : List Step} : ∀ {R : List Step} {u : Node}, Walk u (R ++ R') v → ∃ x, Walk u R x ∧ Walk x R' v
  | [], u, h => ⟨u, .nil u, h⟩
  | s :: R, u, h => by
    obtain ⟨e, h2⟩ := Walk.inv h
    obtain ⟨x, h3, h4⟩ := Walk.split h2
    subst e
    exact ⟨x, .cons h3, h4⟩
def gsum (g : Step → Int) (R : List Step) : Int := (R.map g).sum
theorem gsum_cons (g : Step → Int) (s : Step) (R : List Step) : gsum g (s :: R) = g s + gsum g R := by unfold gsum; rw [List.map_cons, List.sum_cons]
theorem gsum_append (g : Step → Int) (R R' : List Step) : gsum g (R ++ R') = gsum g R + gsum g R' := by unfold gsum; rw [List.map_append, List.sum_append]
/-- up a height that no step climbs by more than its gain -/
theorem tele {g : Step → Int} {B : Node → Int} : ∀ {R : List Step} {u v : Node}, Walk u R v → (∀ s ∈ R, B s.dst ≤ B s.src + g s) → B v ≤ B u + gsum g R
  | [], u, v, h, _ => by
    cases h
    simp [gsum]
  | s :: R, u, v, h, hs => by
    obtain ⟨e, h2⟩ := h.inv
    subst e
    have a := tele h2 fun t ht => hs t (List.mem_cons_of_mem _ ht)
    have b := hs s List.mem_cons_self
    rw [gsum_cons]
    omega
theorem tele_lt {g : Step → Int} {B : Node → Int} : ∀ {R : List Step} {u v : Node}, Walk u R v → (∀ s ∈ R, B s.dst ≤ B s.src + g s) → (∃ s ∈ R, B s.dst < B s.src + g s) → B v < B u + gsum g R
  | [], u, v, h, _, ⟨s, hs, _⟩ => nomatch hs
  | s :: R, u, v, h, hs, ⟨t, ht, hlt⟩ => by
    obtain ⟨e, h2⟩ := h.inv
    subst e
    have b := hs s List.mem_cons_self
    rw [gsum_cons]
    rcases List.mem_cons.mp ht with e | ht
    · subst e
      have a := tele h2 fun t ht => hs t (List.mem_cons_of_mem _ ht)
      omega
    · have a := tele_lt h2 (fun t ht => hs t (List.mem_cons_of_mem _ ht)) ⟨t, ht, hlt⟩
      omega
/-- down a height that every step climbs by its gain at least -/
theorem tele_ge {g : Step → Int} {B : Node → Int} : ∀ {R : List Step} {u v : Node}, Walk u R v → (∀ s ∈ R, B s.src + g s ≤ B s.dst) → B u + gsum g R ≤ B v
  | [], u, v, h, _ => by
    cases h
    simp [gsum]
  | s :: R, u, v, h, hs => by
    obtain ⟨e, h2⟩ := h.inv
    subst e
    have a := tele_ge h2 fun t ht => hs t (List.mem_cons_of_mem _ ht)
    have b := hs s List.mem_cons_self
    rw [gsum_cons]
    omega
/-! ### the search: heights B, last steps L, turns T of the last moves -/
structure Bf (S : List Step) (g : Step → Int) (B : Node → Int) (L : Node → Option Step) (T : Node → Nat) (t i : Nat) (mv : Option Node) : Prop where
  edge : ∀ v e, L v = some e → e ∈ S ∧ e.dst = v ∧ B v ≤ B e.src + g e
  non : ∀ v, L v = none ↔ T v = 0
  top : ∀ v, T v ≤ t + 1
  back : ∀ v e, L v = some e → T v ≤ T e.src + 1
  lax : ∀ (j : Nat) (s : Step), S[j]? = some s → (j < i → T s.src ≤ t → B s.src + g s ≤ B s.dst) ∧ (i ≤ j → T s.src < t → B s.src + g s ≤ B s.dst)
  ring : ∀ (u : Node) (R : List Step), Walk u R u → R ≠ [] → (∀ e ∈ R, L e.dst = some e) → 0 < gsum g R
  mvs : ∀ v, mv = some v → T v = t + 1
  mvn : mv = none → ∀ v, T v ≤ t
def upd1 {β : Type} (B : Node → β) (v : Node) (x : β) : Node → β := fun u => if u = v then x else B u
theorem upd1_same {β : Type} {B : Node → β} {v : Node} {x : β} : upd1 B v x v = x := if_pos rfl
theorem upd1_ne {β : Type} {B : Node → β} {v u : Node} {x : β} (h : u ≠ v) : upd1 B v x u = B u := if_neg h
theorem Bf.start (S : List Step) (g : Step → Int) : Bf S g (fun _ => 0) (fun _ => Option.none) (fun _ => 0) 0 0 Option.none where
  edge := fun v e h => nomatch h
  non := fun v => ⟨fun _ => rfl, fun _ => rfl⟩
  top := fun v => Nat.zero_le _
  back := fun v e h => nomatch h
  lax := fun j s h => ⟨fun z => absurd z (Nat.not_lt_zero j), fun _ z => absurd z (Nat.not_lt_zero _)⟩
  ring := fun u R h ne hs => by
    cases R with
    | nil => exact absurd rfl ne
    | cons s R =>
      have := hs s List.mem_cons_self
      cases this
  mvs := fun v h => nomatch h
  mvn := fun _ v => Nat.le_refl _
section
variable {S : List Step} {g : Step → Int} {B : Node → Int} {L : Node → Option Step} {T : Node → Nat} {t i : Nat} {mv : Option Node}
/-- no move at step i -/
theorem Bf.stay (h : Bf S g B L T t i mv) {s : Step} (hs : S[i]? = some s) (hn : ¬ B s.dst < B s.src + g s) : Bf S g B L T t (i + 1) mv where
  edge := h.edge
  non := h.non
  top := h.top
  back := h.back
  lax := fun j s' hj => ⟨fun a b => by
    by_cases e : j = i
    · subst e
      rw [hs] at hj
      cases hj
      omega
    · exact (h.lax j s' hj).1 (by omega) b, fun a b => (h.lax j s' hj).2 (by omega) b⟩
  ring := h.ring
  mvs := h.mvs
  mvn := h.mvn
/-- a move at step i -/
theorem Bf.move (h : Bf S g B L T t i mv) {s : Step} (hs : S[i]? = some s) (hm : B s.dst < B s.src + g s) : Bf S g (upd1 B s.dst (B s.src + g s)) (upd1 L s.dst (some s)) (upd1 T s.dst (t + 1)) t (i + 1) (some s.dst) := by
  have up : ∀ v, B v ≤ upd1 B s.dst (B s.src + g s) v := fun v => by
    by_cases e : v = s.dst
    · rw [e, upd1_same]; omega
    · rw [upd1_ne e]; omega
  have tp : ∀ v, T v ≤ upd1 T s.dst (t + 1) v := fun v => by
    by_cases e : v = s.dst
    · rw [e, upd1_same]; exact h.top _
    · rw [upd1_ne e]; omega
  refine ⟨fun v e he => ?_, fun v => ?_, fun v => ?_, fun v e he => ?_, fun j s' hj => ⟨fun a b => ?_, fun a b => ?_⟩, fun u R hw ne hR => ?_, fun v hv => ?_, fun z => nomatch z⟩
  · by_cases z : v = s.dst
    · subst z
      rw [upd1_same] at he
      cases he
      refine ⟨List.mem_of_getElem? hs, rfl, ?_⟩
      rw [upd1_same]
      have := up s.src
      omega
    · rw [upd1_ne z] at he
      obtain ⟨a, b, c⟩ := h.edge v e he
      refine ⟨a, b, ?_⟩
      rw [upd1_ne z]
      have := up e.src
      omega
  · by_cases z : v = s.dst
    · subst z
      rw [upd1_same, upd1_same]
      exact ⟨fun z => (nomatch z), fun z => (nomatch z)⟩
    · rw [upd1_ne z, upd1_ne z]
      exact h.non v
  · by_cases z : v = s.dst
    · subst z
      rw [upd1_same]
      omega
    · rw [upd1_ne z]
      exact h.top v
  · by_cases z : v = s.dst
    · subst z
      rw [upd1_same] at he
      cases he
      rw [upd1_same]
      by_cases y : T s.src < t
      · have := (h.lax i s hs).2 (Nat.le_refl _) y
        omega
      · have := tp s.src
        omega
    · rw [upd1_ne z] at he
      rw [upd1_ne z]
      have a := h.back v e he
      have b := tp e.src
      omega
  · by_cases y : s'.src = s.dst
    · rw [y, upd1_same] at b
      omega
    · rw [upd1_ne y] at b ⊢
      by_cases e : j = i
      · subst e
        rw [hs] at hj
        cases hj
        rw [upd1_same]
        omega
      · have := (h.lax j s' hj).1 (by omega) b
        have := up s'.dst
        omega
  · by_cases y : s'.src = s.dst
    · rw [y, upd1_same] at b
      omega
    · rw [upd1_ne y] at b ⊢
      have := (h.lax j s' hj).2 (by omega) b
      have := up s'.dst
      omega
  · have le : ∀ e ∈ R, B e.dst ≤ B e.src + g e := fun e he => by
      have := hR e he
      by_cases z : e.dst = s.dst
      · rw [z, upd1_same] at this
        cases this
        omega
      · rw [upd1_ne z] at this
        exact (h.edge _ e this).2.2
    by_cases hmem : s ∈ R
    · have := tele_lt hw le ⟨s, hmem, hm⟩
      omega
    · refine h.ring u R hw ne fun e he => ?_
      have := hR e he
      by_cases z : e.dst = s.dst
      · rw [z, upd1_same] at this
        cases this
        exact absurd he hmem
      · rwa [upd1_ne z] at this
  · cases hv
    rw [upd1_same]
theorem Bf.next (h : Bf S g B L T t S.length mv) : Bf S g B L T (t + 1) 0 none where
  edge := h.edge
  non := h.non
  top := fun v => Nat.le_succ_of_le (h.top v)
  back := h.back
  lax := fun j s hj => ⟨fun z => absurd z (Nat.not_lt_zero j), fun _ z => (h.lax j s hj).1 (List.getElem?_eq_some_iff.mp hj).1 (by omega)⟩
  ring := h.ring
  mvs := fun v z => nomatch z
  mvn := fun _ v => h.top v
theorem Bf.calm (h : Bf S g B L T t S.length none) {u : Node} {R : List Step} (hw : Walk u R u) (hR : ∀ s ∈ R, s ∈ S) : gsum g R ≤ 0 := by
  have := tele_ge (g := g) (B := B) hw fun s hs => by
    obtain ⟨j, hj, ej⟩ := List.mem_iff_getElem.mp (hR s hs)
    exact (h.lax j s (by rw [List.getElem?_eq_getElem hj, ej])).1 hj (h.mvn rfl _)
  omega
end
/-! ### back along the last steps -/
def prd (L : Node → Option Step) (v : Node) : Node := match L v with
  | some e => e.src
  | none => v
def bk (L : Node → Option Step) (v : Node) : Nat → Node
  | 0 => v
  | k + 1 => prd L (bk L v k)
theorem bk_add (L : Node → Option Step) (v : Node) (i : Nat) : ∀ j, bk L v (i + j) = bk L (bk L v i) j
  | 0 => rfl
  | j + 1 => by
    show prd L (bk L v (i + j)) = prd L (bk L (bk L v i) j)
    rw [bk_add L v i j]
theorem nodup_subG {α : Type} [DecidableEq α] : ∀ {l D : List α}, l.Nodup → (∀ x ∈ l, x ∈ D) → l.length ≤ D.length
  | [], _, _, _ => Nat.zero_le _
  | a :: l, D, hn, h => by
    obtain ⟨h1, h2⟩ := List.nodup_cons.mp hn
    have ha := h a List.mem_cons_self
    have ih := nodup_subG (l := l) (D := D.erase a) h2 fun x hx => (List.mem_erase_of_ne (fun e => h1 (by rw [← e]; exact hx))).mpr (h x (List.mem_cons_of_mem _ hx))
    rw [List.length_erase_of_mem ha] at ih
    have := List.length_pos_of_mem ha
    show l.length + 1 ≤ _
    omega
theorem pigeon {α : Type} [DecidableEq α] (x : Nat → α) (V : List α) (N : Nat) (hV : V.length ≤ N) (hx : ∀ k, k ≤ N → x k ∈ V) : ∃ i j, i < j ∧ j ≤ N ∧ x i = x j := by
  refine Classical.byContradiction fun no => ?_
  have nd : ((List.range (N + 1)).map x).Nodup := by
    rw [List.nodup_iff_pairwise_ne, List.pairwise_map]
    refine List.Pairwise.imp_of_mem ?_ List.pairwise_lt_range
    intro a b ha hb hab e
    have := List.mem_range.mp hb
    exact no ⟨a, b, hab, by omega, e⟩
  have := nodup_subG (D := V) nd fun y hy => by
    obtain ⟨k, hk, e⟩ := List.mem_map.mp hy
    rw [← e]
    exact hx k (by have := List.mem_range.mp hk; omega)
  rw [List.length_map, List.length_range] at this
  omega
/-- all is known behind the last move -/
structure Cyc (S : List Step) (L : Node → Option Step) (y : Node) (per : Nat) : Prop where
  pos : 0 < per
  back : bk L y per = y
  def_ : ∀ m, ∃ e, L (bk L y m) = some e ∧ e ∈ S ∧ e.dst = bk L y m ∧ e.src = bk L y (m + 1)
theorem Bf.cyc {S : List Step} {g : Step → Int} {B : Node → Int} {L : Node → Option Step} {T : Node → Nat} {N i : Nat} {v : Node} (h : Bf S g B L T N i (some v)) (V : List Node) (hV : V.length = N) (hS : ∀ s ∈ S, s.src ∈ V ∧ s.dst ∈ V) :
    (∀ k, k ≤ N → ∃ e, L (bk L v k) = some e ∧ e ∈ S ∧ e.dst = bk L v k ∧ e.src = bk L v (k + 1)) ∧ ∃ per, per ≤ N ∧ Cyc S L (bk L v N) per := by
  have hT : ∀ k, k ≤ N → N + 1 ≤ T (bk L v k) + k := by
    intro k
    induction k with
    | zero => intro _; have := h.mvs v rfl; show N + 1 ≤ T v + 0; omega
    | succ k ih =>
      intro hk
      have ihk := ih (by omega)
      cases e : L (bk L v k) with
      | none =>
        have := (h.non _).mp e
        omega
      | some ed =>
        have b := h.back _ ed e
        have : bk L v (k + 1) = ed.src := by
          show prd L (bk L v k) = _
          unfold prd
          rw [e]
        rw [this]
        omega
  have hD : ∀ k, k ≤ N → ∃ e, L (bk L v k) = some e ∧ e ∈ S ∧ e.dst = bk L v k ∧ e.src = bk L v (k + 1) := fun k hk => by
    cases e : L (bk L v k) with
    | none =>
      have := (h.non _).mp e
      have := hT k hk
      omega
    | some ed =>
      obtain ⟨a, b, _⟩ := h.edge _ ed e
      refine ⟨ed, rfl, a, b, ?_⟩
      show _ = prd L (bk L v k)
      unfold prd
      rw [e]
  refine ⟨hD, ?_⟩
  obtain ⟨a, b, hab, hbN, eab⟩ := pigeon (fun k => bk L v k) V N (by omega) fun k hk => by
    obtain ⟨e, _, h2, h3, _⟩ := hD k hk
    show bk L v k ∈ V
    rw [← h3]
    exact (hS e h2).2
  have per : ∀ m, bk L v (b + m) = bk L v (a + m) := fun m => by
    rw [bk_add, bk_add]
    show bk L (bk L v b) m = bk L (bk L v a) m
    rw [show bk L v b = bk L v a from eab.symm]
  have hall : ∀ m, ∃ e, L (bk L v m) = some e ∧ e ∈ S ∧ e.dst = bk L v m ∧ e.src = bk L v (m + 1) := by
    intro m
    induction m using Nat.strongRecOn with
    | _ m ih =>
      by_cases hm : m ≤ N
      · exact hD m hm
      · obtain ⟨e, h1, h2, h3, h4⟩ := ih (m - (b - a)) (by omega)
        have e1 : bk L v m = bk L v (m - (b - a)) := by
          have := per (m - b)
          rw [show b + (m - b) = m by omega, show a + (m - b) = m - (b - a) by omega] at this
          exact this
        have e2 : bk L v (m + 1) = bk L v (m - (b - a) + 1) := by
          show prd L _ = prd L _
          rw [e1]
        exact ⟨e, by rw [e1]; exact h1, h2, by rw [e1]; exact h3, by rw [e2]; exact h4⟩
  refine ⟨b - a, by omega, by omega, ?_, fun m => ?_⟩
  · rw [← bk_add]
    have := per (N + (b - a) - b)
    rw [show b + (N + (b - a) - b) = N + (b - a) by omega, show a + (N + (b - a) - b) = N by omega] at this
    exact this
  · obtain ⟨e, h1, h2, h3, h4⟩ := hall (N + m)
    rw [bk_add] at h1 h3
    refine ⟨e, h1, h2, h3, ?_⟩
    rw [h4, show N + m + 1 = N + (m + 1) by omega, bk_add]
end Dl
set_option Elab.async false
set_option linter.all false
set_option maxRecDepth 100000
set_option maxHeartbeats 1000000
/-! Walks 15: the search for a longer ring. -/
namespace Dl
open PySem PySem.Spec PyProof.Rows L2 C8 Rf
abbrev kk (v : Node) : List Int := [((v.1 : Nat) : Int), ((v.2 : Nat) : Int)]
theorem kk_inj {u v : Node} (h : kk u = kk v) : u = v := by
  obtain ⟨a, b⟩ := u
  obtain ⟨a', b'⟩ := v
  simp only [kk, List.cons.injEq, and_true] at h
  have : a = a' := by omega
  have : b = b' := by omega
  subst_vars
  rfl
abbrev ndD (v : Node) : PyData := nodeD v.1 v.2
abbrev bestL (B : Node → Int) (q : Int) (V : List Node) : List (List Int × PyData) := V.map fun v => (kk v, pI (rd (B v) q))
theorem aget_best (B : Node → Int) (q : Int) (V : List Node) (v : Node) : aget (bestL B q V) (kk v) = if v ∈ V then some (pI (rd (B v) q)) else none := by
  induction V with
  | nil => rfl
  | cons u V ih =>
    show aget ((kk u, _) :: _) (kk v) = _
    rw [aget_cons]
    by_cases h : u = v
    · subst h
      simp
    · have h2 : ¬ v = u := fun e => h e.symm
      rw [if_neg fun e => h (kk_inj e)]
      rw [show aget (List.map (fun v => (kk v, pI (rd (B v) q))) V) (kk v) = aget (bestL B q V) (kk v) from rfl, ih]
      simp [h2]
theorem aput_best {B : Node → Int} {q : Int} {V : List Node} {v : Node} (hv : v ∈ V) (x : Int) : aput (bestL B q V) (kk v) (pI (rd x q)) = bestL (upd1 B v x) q V := by
  unfold aput
  rw [if_pos (by rw [aget_best, if_pos hv]; rfl), List.map_map]
  refine List.map_congr_left fun u _ => ?_
  show (if kk u = kk v then (kk v, pI (rd x q)) else (kk u, pI (rd (B u) q))) = (kk u, pI (rd (upd1 B v x u) q))
  by_cases h : u = v
  · subst h
    rw [if_pos rfl, upd1_same]
  · rw [if_neg fun e => h (kk_inj e), upd1_ne h]
theorem rd_zero {q : Int} (h : 0 < q) : rd 0 q = (0, 1) := by
  have : rd 0 q = rd 0 1 := rd_eq h (by decide) (by simp)
  rw [this]
  decide
theorem put_zero {q : Int} (hq : 0 < q) {V : List Node} (hn : V.Nodup) (v : Node) : ∃ V', aput (bestL (fun _ => 0) q V) (kk v) (pI (0, 1)) = bestL (fun _ => 0) q V' ∧ V'.Nodup ∧ v ∈ V' ∧ (∀ u ∈ V, u ∈ V') ∧ V'.length ≤ V.length + 1 := by
  by_cases h : v ∈ V
  · refine ⟨V, ?_, hn, h, fun u hu => hu, by omega⟩
    have := aput_best (B := fun _ => 0) (q := q) h 0
    rw [rd_zero hq] at this
    rw [this]
    refine List.map_congr_left fun u _ => ?_
    have : upd1 (fun _ : Node => (0 : Int)) v 0 u = 0 := by unfold upd1; split <;> rfl
    rw [this]
  · refine ⟨V ++ [v], ?_, List.nodup_append.mpr ⟨hn, by simp, fun a ha d hd z => h (by simp at hd; rw [← hd, ← z]; exact ha)⟩, by simp, fun u hu => List.mem_append_left _ hu, by simp⟩
    rw [aput_new (by rw [aget_best, if_neg h])]
    unfold bestL
    rw [List.map_append]
    show _ = _ ++ [(kk v, pI (rd 0 q))]
    rw [rd_zero hq]
structure LastOk (kvs : List (List Int × PyData)) (L : Node → Option Step) (m : Nat) : Prop where
  get : ∀ v, aget kvs (kk v) = (L v).map stepD
  len : kvs.length ≤ m
theorem LastOk.put {kvs : List (List Int × PyData)} {L : Node → Option Step} {m : Nat} (h : LastOk kvs L m) (v : Node) (s : Step) : LastOk (aput kvs (kk v) (stepD s)) (upd1 L v (some s)) (m + 1) := by
  refine ⟨fun u => ?_, Nat.le_trans (aput_len ..) (Nat.succ_le_succ h.len)⟩
  rw [aget_put]
  by_cases e : u = v
  · subst e
    rw [if_pos rfl, upd1_same]
    rfl
  · rw [if_neg fun z => e (kk_inj z), upd1_ne e]
    exact h.get u
theorem LastOk.up {kvs : List (List Int × PyData)} {L : Node → Option Step} {m m' : Nat} (h : LastOk kvs L m) (e : m ≤ m') : LastOk kvs L m' := ⟨h.get, Nat.le_trans h.len e⟩
/-! ### sums and order of ratios -/
theorem rd_add {x y q : Int} (hq : 0 < q) : rd ((rd x q).1 * (rd y q).2 + (rd y q).1 * (rd x q).2) ((rd x q).2 * (rd y q).2) = rd (x + y) q := by
  have h1 := rd_pos (a := x) hq
  have h2 := rd_pos (a := y) hq
  obtain ⟨g, hg, e1, e2⟩ := rd_mul (a := x) hq
  obtain ⟨g', hg', e3, e4⟩ := rd_mul (a := y) hq
  generalize rd x q = a at *
  generalize rd y q = b at *
  refine rd_eq (Int.mul_pos h1 h2) hq ?_
  rw [Int.add_mul, Int.add_mul]
  have t1 : a.1 * b.2 * q = x * (a.2 * b.2) := by
    rw [e2, e1]
    simp [Int.mul_assoc, Int.mul_comm, Int.mul_left_comm]
  have t2 : b.1 * a.2 * q = y * (a.2 * b.2) := by
    conv => lhs; rw [e4]
    rw [e3]
    simp [Int.mul_assoc, Int.mul_comm, Int.mul_left_comm]
  rw [t1, t2]
theorem rd_lt {x y q : Int} (hq : 0 < q) : (rd y q).1 * (rd x q).2 < (rd x q).1 * (rd y q).2 ↔ y < x := by
  have h1 := rd_pos (a := x) hq
  have h2 := rd_pos (a := y) hq
  obtain ⟨g, hg, e1, e2⟩ := rd_mul (a := x) hq
  obtain ⟨g', hg', e3, e4⟩ := rd_mul (a := y) hq
  generalize rd x q = a at *
  generalize rd y q = b at *
  have t1 : a.1 * b.2 * q = x * (a.2 * b.2) := by
    rw [e2, e1]
    simp [Int.mul_assoc, Int.mul_comm, Int.mul_left_comm]
  have t2 : b.1 * a.2 * q = y * (a.2 * b.2) := by
    conv => lhs; rw [e4]
    rw [e3]
    simp [Int.mul_assoc, Int.mul_comm, Int.mul_left_comm]
  have hp := Int.mul_pos h1 h2
  constructor
  · intro h
    have := Int.mul_lt_mul_of_pos_right h hq
    rw [t1, t2] at this
    exact Int.lt_of_mul_lt_mul_right this (Int.le_of_lt hp)
  · intro h
    have := Int.mul_lt_mul_of_pos_right h hp
    rw [← t1, ← t2] at this
    exact Int.lt_of_mul_lt_mul_right this (Int.le_of_lt hq)
/-! ### the ring behind -/
structure Back (S : List Step) (L : Node → Option Step) (y : Node) (m : Nat) (F : List Step) : Prop where
  walk : Walk (bk L y m) F.reverse y
  len : F.length = m
  mem : ∀ s ∈ F, s ∈ S ∧ L s.dst = some s
  src : F.map Step.src = (List.range m).map fun j => bk L y (j + 1)
theorem Back.more {S : List Step} {L : Node → Option Step} {y : Node} {m per : Nat} {F : List Step} (h : Back S L y m F) (C : Cyc S L y per) : ∃ e, L (bk L y m) = some e ∧ e.src = bk L y (m + 1) ∧ Back S L y (m + 1) (F ++ [e]) := by
  obtain ⟨e, h1, h2, h3, h4⟩ := C.def_ m
  refine ⟨e, h1, h4, ⟨?_, by rw [List.length_append, h.len]; rfl, fun s hs => ?_, ?_⟩⟩
  · rw [List.reverse_append, ← h4]
    have w := h.walk
    rw [← h3] at w
    exact .cons w
  · rcases List.mem_append.mp hs with z | z
    · exact h.mem s z
    · have : s = e := by simpa using z
      rw [this]
      exact ⟨h2, by rw [h3]; exact h1⟩
  · rw [List.map_append, h.src, List.range_succ, List.map_append]
    show _ ++ [e.src] = _ ++ [bk L y (m + 1)]
    rw [h4]
theorem Back.simple {S : List Step} {L : Node → Option Step} {y : Node} {m : Nat} {F : List Step} (h : Back S L y m F) (hm : bk L y m = y) (hn : ∀ k, 0 < k → k < m → bk L y k ≠ y) : (F.reverse.map Step.src).Nodup := by
  rw [List.map_reverse, (List.reverse_perm _).nodup_iff, h.src, List.nodup_iff_pairwise_ne, List.pairwise_map]
  refine List.Pairwise.imp_of_mem ?_ List.pairwise_lt_range
  intro a b ha hb hab e
  have hb := List.mem_range.mp hb
  have : bk L y (a + 1 + (m - (b + 1))) = y := by
    rw [bk_add, e, ← bk_add, show b + 1 + (m - (b + 1)) = m by omega, hm]
  exact hn _ (by omega) (by omega) this
/-! ### the walk -/
structure LrIn where
  S : List Step
  ts : List Nat
  p : Int
  q : Int
abbrev eLr (x : LrIn) : List PyData := [.list (x.S.map stepD), marksD x.ts, pI (x.p, x.q)]
structure StOk (S : List Step) (ts : List Nat) : Prop where
  len : S.length ≤ 100
  ok : ∀ s ∈ S, s.a < ts.length ∧ -1000000 < s.lag ∧ s.lag < 1000000
structure LrOk (x : LrIn) : Prop where
  st : StOk x.S x.ts
  q : 0 < x.q ∧ x.q < 32000
def wg (ts : List Nat) (p q : Int) (s : Step) : Int := ((rv ts s.a : Nat) : Int) * q - s.lag * p
structure RingOf (S : List Step) (R : List Step) : Prop where
  ex : ∃ u, Walk u R u
  ne : R ≠ []
  mem : ∀ s ∈ R, s ∈ S
  simple : (R.map Step.src).Nodup
def LrPost (x : LrIn) (r : PyData) : Prop := (r = .none ∧ ∀ u R, Walk u R u → (∀ s ∈ R, s ∈ x.S) → gsum (wg x.ts x.p x.q) R ≤ 0) ∨ ∃ R, r = .tuple (R.map stepD) ∧ RingOf x.S R ∧ 0 < gsum (wg x.ts x.p x.q) R
def mvD : Option Node → PyData
  | none => .none
  | some v => ndD v
section
variable {P : Program} {w : World} {K : PySem.W.Frag} {mg : PySem.Str → Option Value} {base : Heap}
abbrev spLr : Sp := spA eLr LrOk LrPost
theorem sc_longer_ring : FnScope ["steps", "times", "mean", "best", "last", "first", "second", "lag", "turn", "moved", "step", "gain", "here", "found"] ["steps", "times", "mean"] (defScope s_longer_ring) := ⟨rfl, rfl, rfl, by decide +kernel, rfl, by decide +kernel, by decide +kernel⟩
theorem ok_longer_ring (T : Tx mg) (F : Df K mg "longer_ring" s_longer_ring) (c_reduced : Cal P w K mg base 2 "reduced" spRed []) : Cal P w K mg base 3 "longer_ring" spLr [] := by
  refine calA _ _ _ F sc_longer_ring rfl (by decide) (fun _ => rfl) (fun _ _ _ _ _ _ us hl => match us, hl with | [_, _, _], _ => rfl) fun f cdv A outer s H E hr => ⟨_,
    (pss_cons (ps_par (i := 3) (j := 4) (by rfl) sc_longer_ring.nd rfl rfl (by decide) rfl rfl (pa_cons pe_dnewT (pa_cons pe_dnewT pa_nil)) (by rfl))
      (pss_cons (ps_for PassesOwn.never rfl (pi_list (pv 0)) (pg_tup rfl (pgs_cons (pg_name (i := 5) sc_longer_ring.nd rfl (.inl rfl)) (pgs_cons (pg_name (i := 6) sc_longer_ring.nd rfl (.inl rfl)) (pgs_cons (pg_name (i := 7) sc_longer_ring.nd rfl (.inl rfl)) pgs_nil)))) (pss_one (ps_asg (pe_tup (pa_cons (pe_tup (pa_cons pe_int (pa_cons pe_int pa_nil))) (pa_cons (pe_tup (pa_cons pe_int (pa_cons pe_int pa_nil))) pa_nil))) (pg_tup rfl (pgs_cons (pg_sub (pv 3) (pv 5) (set_dict (hu_of hr))) (pgs_cons (pg_sub (pv 3) (pv 6) (set_dict (hu_of hr))) pgs_nil))))))
      (pss_cons (ps_for PassesOwn.never rfl (pi_range1 (by rfl) T.m_range (pa_cons (pe_op op_add (pe_callB call_len_dT (by rfl) T.m_len PySem.boot_len (pa_cons (pv 3) pa_nil)) pe_int) pa_nil)) (pg_name (i := 8) sc_longer_ring.nd rfl (.inl rfl)) (pss_cons (ps_set (i := 9) sc_longer_ring.nd rfl (.inl rfl) pe_non)
      (pss_one (ps_for PassesOwn.never rfl (pi_list (pv 0)) (pg_name (i := 10) sc_longer_ring.nd rfl (.inl rfl)) (pss_cons (ps_asg (pv 10) (pg_tup rfl (pgs_cons (pg_name (i := 5) sc_longer_ring.nd rfl (.inl rfl)) (pgs_cons (pg_name (i := 6) sc_longer_ring.nd rfl (.inl rfl)) (pgs_cons (pg_name (i := 7) sc_longer_ring.nd rfl (.inl rfl)) pgs_nil)))))
      (pss_cons (ps_set (i := 11) sc_longer_ring.nd rfl (.inl rfl) (pe_c c_reduced hr (by decide) (by rfl) (pa_cons (pe_op op_sub (pe_op op_mul (pe_ix ix_seq (pv 1) (pe_ix ix_seq (pv 5) pe_int (fun _ _ => rfl)) (fun _ _ => rfl)) (pe_ix ix_seq (pv 2) pe_int (fun _ _ => rfl))) (pe_op op_mul (pv 7) (pe_ix ix_seq (pv 2) pe_int (fun _ _ => rfl)))) (pa_cons (pe_ix ix_seq (pv 2) pe_int (fun _ _ => rfl)) pa_nil))))
      (pss_cons (ps_set (i := 12) sc_longer_ring.nd rfl (.inl rfl) (pe_c c_reduced hr (by decide) (by rfl) (pa_cons (pe_op op_add (pe_op op_mul (pe_ix ix_seq (pe_dget (hu_of hr) (pv 3) (pv 5) (fun _ _ => rfl)) pe_int (fun _ _ => rfl)) (pe_ix ix_seq (pv 11) pe_int (fun _ _ => rfl))) (pe_op op_mul (pe_ix ix_seq (pv 11) pe_int (fun _ _ => rfl)) (pe_ix ix_seq (pe_dget (hu_of hr) (pv 3) (pv 5) (fun _ _ => rfl)) pe_int (fun _ _ => rfl)))) (pa_cons (pe_op op_mul (pe_ix ix_seq (pe_dget (hu_of hr) (pv 3) (pv 5) (fun _ _ => rfl)) pe_int (fun _ _ => rfl)) (pe_ix ix_seq (pv 11) pe_int (fun _ _ => rfl))) pa_nil))))
      (pss_one (ps_if (pt_cmpR op_gt (pe_op op_mul (pe_ix ix_seq (pv 12) pe_int (fun _ _ => rfl)) (pe_ix ix_seq (pe_dget (hu_of hr) (pv 3) (pv 6) (fun _ _ => rfl)) pe_int (fun _ _ => rfl))) (pe_op op_mul (pe_ix ix_seq (pe_dget (hu_of hr) (pv 3) (pv 6) (fun _ _ => rfl)) pe_int (fun _ _ => rfl)) (pe_ix ix_seq (pv 12) pe_int (fun _ _ => rfl))) (nomark _)) (pss_one (ps_asg (pe_tup (pa_cons (pv 12) (pa_cons (pv 10) (pa_cons (pv 6) pa_nil)))) (pg_tup rfl (pgs_cons (pg_sub (pv 3) (pv 6) (set_dict (hu_of hr))) (pgs_cons (pg_sub (pv 4) (pv 6) (set_dict (hu_of hr))) (pgs_cons (pg_name (i := 9) sc_longer_ring.nd rfl (.inl rfl)) pgs_nil)))))) pss_nil)))))))))
      (pss_cons (ps_if (pt_cmpR op_isN (pv 9) pe_non (nomark _)) (pss_one (ps_ret pe_non)) pss_nil)
      (pss_cons (ps_for PassesOwn.never rfl (pi_range1 (by rfl) T.m_range (pa_cons (pe_callB call_len_dT (by rfl) T.m_len PySem.boot_len (pa_cons (pv 3) pa_nil)) pa_nil)) (pg_name (i := 8) sc_longer_ring.nd rfl (.inl rfl)) (pss_one (ps_set (i := 9) sc_longer_ring.nd rfl (.inl rfl) (pe_ix ix_seq (pe_dget (hu_of hr) (pv 4) (pv 9) (fun _ _ => rfl)) pe_int (fun _ _ => rfl)))))
      (pss_cons (ps_par (i := 13) (j := 12) (by rfl) sc_longer_ring.nd rfl rfl (by decide) rfl rfl (pa_cons (pe_lst (pa_cons (pe_dget (hu_of hr) (pv 4) (pv 9) (fun _ _ => rfl)) pa_nil)) (pa_cons (pe_ix ix_seq (pe_dget (hu_of hr) (pv 4) (pv 9) (fun _ _ => rfl)) pe_int (fun _ _ => rfl)) pa_nil)) (by rfl))
      (pss_cons (ps_while PassesOwn.never (pt_cmpR (op_neD (hu64 hr)) (pv 12) (pv 9) (nomark _)) (pss_cons (ps_expr (pe_bm PySem.F.plainAttrs_list PySem.F.slot_list_append PySem.F.type_list_append mt_append (pv 13) (pa_cons (pe_dget (hu_of hr) (pv 4) (pv 12) (fun _ _ => rfl)) pa_nil)))
      (pss_one (ps_set (i := 12) sc_longer_ring.nd rfl (.inl rfl) (pe_ix ix_seq (pe_dget (hu_of hr) (pv 4) (pv 12) (fun _ _ => rfl)) pe_int (fun _ _ => rfl))))))
      (pss_one (ps_ret (pe_callTy call_tuple_of (by rfl) T.m_tuple (by decide +kernel) (pa_cons (pe_revL (pv 13)) pa_nil))))))))))), fun F0 x hx => ?_⟩
  obtain ⟨S, ts, p, q⟩ := x
  obtain ⟨⟨hz, hst⟩, hq, hq9⟩ := hx
  simp only at hz hst hq hq9
  show Wp _ _ ([.im (.list (S.map stepD)), .im (marksD ts), .im (pI (p, q))] ++ List.replicate _ .un) _
  have hqq : ∀ {a b : Int}, 0 < a → a ≤ q → 0 < b → b ≤ q → 0 < a * b ∧ a * b < 1073741824 := fun {a b} h1 h2 h3 h4 => by
    have := Int.mul_le_mul h2 h4 (by omega) (by omega)
    have h5 : q * q ≤ 32000 * 32000 := Int.mul_le_mul (by omega) (by omega) (by omega) (by omega)
    exact ⟨Int.mul_pos h1 h3, by omega⟩
  refine wp_seq (wp_par (es_cons evs_dt (es_cons evs_dt esp_nil)) fun ss e => ⟨_, _, e, ?_⟩)
  refine wp_seq (wp_forL (Pl := fun _ => True) (ds := S.map stepD) (fun i Γ => ∃ V s5 s6 s7, Γ = [.im (.list (S.map stepD)), .im (marksD ts), .im (pI (p, q)), .dt (bestL (fun _ => 0) q V), .dt [], s5, s6, s7, .un, .un, .un, .un, .un, .un] ∧ V.Nodup ∧ (∀ s ∈ S.take i, s.src ∈ V ∧ s.dst ∈ V) ∧ V.length ≤ 2 * i) (ev_var rfl)
    ⟨[], _, _, _, rfl, List.nodup_nil, fun s hs => (by rw [List.take_zero] at hs; cases hs), Nat.le_refl _⟩ (fun i d Γ' hd ⟨V, s5, s6, s7, e, nd, me, ll⟩ => ?_) (fun Γ' ⟨V, s5, s6, s7, e, nd, me, ll⟩ => ?_))
  · subst e
    obtain ⟨s, hs, rfl⟩ := map_get hd
    have il := (List.getElem?_eq_some_iff.mp hs).1
    obtain ⟨V1, e1, n1, m1, u1, l1⟩ := put_zero hq nd s.src
    obtain ⟨V2, e2, n2, m2, u2, l2⟩ := put_zero hq n1 s.dst
    refine tg_tup rfl (bts_name (bts_name (bts_name (bts_nil ?_))))
    refine wp_asgT (Ps := fun ss => ss = [.im (pI (0, 1)), .im (pI (0, 1))]) (es_cons (evs_d (ev_tup (ea_cons ev_int (ea_cons ev_int ea_nil)))) (es_cons (evs_d (ev_tup (ea_cons ev_int (ea_cons ev_int ea_nil)))) esp_nil)) fun ss e => ?_
    subst e
    refine ⟨rfl, by show 2 ≤ 100000; decide, bts_subM (i := 3) (kd := tI (kk s.src)) (s' := .dt (bestL (fun _ => 0) q V1)) rfl rfl rfl (ev_var rfl) (by rw [← e1]; exact sd_dt (by rw [List.length_map]; omega)) (bts_subM (i := 3) (kd := tI (kk s.dst)) (s' := .dt (bestL (fun _ => 0) q V2)) rfl rfl rfl (ev_var rfl) (by rw [← e2]; exact sd_dt (by rw [List.length_map]; omega)) (bts_nil ?_))⟩
    refine ⟨V2, _, _, _, rfl, n2, fun t ht => ?_, by omega⟩
    rw [List.take_add_one, hs] at ht
    rcases List.mem_append.mp ht with z | z
    · exact ⟨u2 _ (u1 _ (me t z).1), u2 _ (u1 _ (me t z).2)⟩
    · have : t = s := by simpa using z
      rw [this]
      exact ⟨u2 _ m1, m2⟩
  · subst e
    rw [List.length_map] at me ll
    rw [List.take_length] at me
    have ob : ∀ (B : Node → Int) (v : Node), v ∈ V → aget (bestL B q V) (kk v) = some (pI (rd (B v) q)) := fun B v hv => by rw [aget_best, if_pos hv]
    refine wp_seq (wp_forR1 (n := (V.length : Nat) + 1) (Pn := fun _ => True) (fun t Γ => ∃ B L T kvs s5 s6 s7 s8 s9 t0 t1 t2 t3, Γ = [.im (.list (S.map stepD)), .im (marksD ts), .im (pI (p, q)), .dt (bestL B q V), .dt kvs, s5, s6, s7, s8, s9, t0, t1, t2, t3] ∧ LastOk kvs L (t * S.length) ∧ Bf S (wg ts p q) B L T t 0 none ∧ (0 < t → ∃ mv, s9 = .im (mvD mv) ∧ Bf S (wg ts p q) B L T (t - 1) S.length mv))
      (ea_cons (ev_op (ev_eq (ev_lenDT rfl) (by rw [List.length_map])) ev_int opd_add) ea_nil) (by omega) ⟨_, _, _, [], _, _, _, _, _, _, _, _, _, rfl, ⟨fun v => rfl, Nat.zero_le _⟩, Bf.start S _, fun z => absurd z (Nat.lt_irrefl 0)⟩ (fun t Γ' ht ⟨B, L, T, kvs, s5, s6, s7, s8, s9, t0, t1, t2, t3, e, lo, bf, _⟩ => ?_) (fun Γ' ⟨B, L, T, kvs, s5, s6, s7, s8, s9, t0, t1, t2, t3, e, lo, bf, fin⟩ => ?_))
    · subst e
      refine tg_name (wp_seq (wp_set ev_non ?_))
      refine wp_forL (Pl := fun _ => True) (ds := S.map stepD) (fun i Γ => ∃ B L T mv kvs s5 s6 s7 t0 t1 t2, Γ = [.im (.list (S.map stepD)), .im (marksD ts), .im (pI (p, q)), .dt (bestL B q V), .dt kvs, s5, s6, s7, .im (.int (t : Nat)), .im (mvD mv), t0, t1, t2, t3] ∧ LastOk kvs L (t * S.length + i) ∧ Bf S (wg ts p q) B L T t i mv) (ev_var rfl)
        ⟨B, L, T, none, kvs, _, _, _, _, _, _, rfl, lo, bf⟩ (fun i d Γ' hd ⟨B, L, T, mv, kvs, s5, s6, s7, t0, t1, t2, e, lo, bf⟩ => ?_) (fun Γ' ⟨B, L, T, mv, kvs, s5, s6, s7, t0, t1, t2, e, lo, bf⟩ => ?_)
      · subst e
        obtain ⟨s, hs, rfl⟩ := map_get hd
        have sm := List.mem_of_getElem? hs
        have il := (List.getElem?_eq_some_iff.mp hs).1
        obtain ⟨ok1, ok2, ok3⟩ := hst s sm
        obtain ⟨mv1, mv2⟩ := me s sm
        have kl := lo.len
        have kb : t * S.length ≤ 201 * 100 := Nat.mul_le_mul (by omega) hz
        have pg := rd_pos (a := wg ts p q s) hq
        have lg := rd_le (a := wg ts p q s) hq
        have pu := rd_pos (a := B s.src) hq
        have lu := rd_le (a := B s.src) hq
        have pv' := rd_pos (a := B s.dst) hq
        have lv := rd_le (a := B s.dst) hq
        have ph := rd_pos (a := B s.src + wg ts p q s) hq
        have lh := rd_le (a := B s.src + wg ts p q s) hq
        have cm : ∀ {a b : Int}, 0 < b → b ≤ q → CMul a b := fun {a b} h1 h2 => .inr ⟨by omega, by omega⟩
        have eu : ∀ {B' : Bs} {Γ : List Sk}, Γ[3]? = some (.dt (bestL B q V)) → Γ[5]? = some (.im (ndD s.src)) → Ev B' (tDGet (tVar 3) (tVar 5)) Γ (pI (rd (B s.src) q)) := fun h1 h2 => ev_dget (kd := tI (kk s.src)) (ev_var h2) (.inr (.inl ⟨_, _, h1, rfl, (ob B _ mv1).symm⟩))
        have ew : ∀ {B' : Bs} {Γ : List Sk}, Γ[3]? = some (.dt (bestL B q V)) → Γ[6]? = some (.im (ndD s.dst)) → Ev B' (tDGet (tVar 3) (tVar 6)) Γ (pI (rd (B s.dst) q)) := fun h1 h2 => ev_dget (kd := tI (kk s.dst)) (ev_var h2) (.inr (.inl ⟨_, _, h1, rfl, (ob B _ mv2).symm⟩))
        refine tg_name (wp_seq (wp_asgG (ev_var rfl) fun d e => ?_))
        subst e
        refine tg_tup rfl (bts_name (bts_name (bts_name (bts_nil ?_))))
        refine wp_seq (wp_set (d := pI (rd (wg ts p q s) q)) (ev_callA ((wg ts p q s, q) : Int × Int) (ea_cons (ev_op (ev_op (ev_ixNT (ev_var rfl) (ev_op (ev_var rfl) ev_int (opd_ixT rfl)) (rv_get ok1)) (ev_op (ev_var rfl) ev_int (opd_ixT rfl)) (opd_mul (cm hq (Int.le_refl _)))) (ev_op (ev_var rfl) (ev_op (ev_var rfl) ev_int (opd_ixT rfl)) (opd_mul (.inl ⟨by omega, by omega⟩))) opd_sub) (ea_cons (ev_op (ev_var rfl) ev_int (opd_ixT rfl)) ea_nil)) rfl (by exact ⟨hq, by omega⟩)) ?_)
        have hd1 := hqq pu lu pg lg
        refine wp_seq (wp_set (d := pI (rd (B s.src + wg ts p q s) q)) (ev_eq (ev_callA (((rd (B s.src) q).1 * (rd (wg ts p q s) q).2 + (rd (wg ts p q s) q).1 * (rd (B s.src) q).2, (rd (B s.src) q).2 * (rd (wg ts p q s) q).2) : Int × Int)
          (ea_cons (ev_op (ev_op (ev_op (eu rfl rfl) ev_int (opd_ixT rfl)) (ev_op (ev_var rfl) ev_int (opd_ixT rfl)) (opd_mul (cm pg lg))) (ev_op (ev_op (ev_var rfl) ev_int (opd_ixT rfl)) (ev_op (eu rfl rfl) ev_int (opd_ixT rfl)) (opd_mul (cm pu lu))) opd_add) (ea_cons (ev_op (ev_op (eu rfl rfl) ev_int (opd_ixT rfl)) (ev_op (ev_var rfl) ev_int (opd_ixT rfl)) (opd_mul (cm pg lg))) ea_nil)) rfl (by exact hd1)) (by rw [rd_add hq])) ?_)
        refine wp_ifD (et_eq (et_test (ev_op (ev_op (ev_op (ev_var rfl) ev_int (opd_ixT rfl)) (ev_op (ew rfl rfl) ev_int (opd_ixT rfl)) (opd_mul (cm pv' lv))) (ev_op (ev_op (ew rfl rfl) ev_int (opd_ixT rfl)) (ev_op (ev_var rfl) ev_int (opd_ixT rfl)) (opd_mul (cm ph lh))) opd_gt)) (d' := decide (B s.dst < B s.src + wg ts p q s)) (decide_eq_decide.mpr (rd_lt hq))) (fun e => ?_) (fun e => wp_next ?_)
        · have hm := of_decide_eq_true e
          refine wp_asgT (Ps := fun ss => ss = [.im (pI (rd (B s.src + wg ts p q s) q)), .im (stepD s), .im (ndD s.dst)]) (es_cons (evs_d (ev_var rfl)) (es_cons (evs_d (ev_var rfl)) (es_cons (evs_d (ev_var rfl)) esp_nil))) fun ss e => ?_
          subst e
          refine ⟨rfl, by show 3 ≤ 100000; decide, bts_subM (i := 3) (kd := tI (kk s.dst)) (s' := .dt (bestL (upd1 B s.dst (B s.src + wg ts p q s)) q V)) rfl rfl rfl (ev_var rfl) (by rw [← aput_best mv2]; exact sd_dt (by rw [List.length_map]; omega)) (bts_subM (i := 4) (kd := tI (kk s.dst)) rfl rfl rfl (ev_var rfl) (sd_dt (by omega)) (bts_name (bts_nil ?_)))⟩
          exact ⟨_, _, _, some s.dst, _, _, _, _, _, _, _, rfl, lo.put s.dst s, bf.move hs hm⟩
        · have hm := of_decide_eq_false e
          exact ⟨B, L, T, mv, kvs, _, _, _, _, _, _, rfl, lo.up (by omega), bf.stay hs hm⟩
      · subst e
        rw [List.length_map] at lo bf
        exact ⟨B, L, T, kvs, _, _, _, _, _, _, _, _, _, rfl, lo.up (by rw [Nat.add_mul, Nat.one_mul]; exact Nat.le_refl _), bf.next, fun _ => ⟨mv, rfl, bf⟩⟩
    · subst e
      obtain ⟨mv, rfl, bf⟩ := fin (by omega)
      rw [show ((V.length : Nat) + 1 : Int).toNat - 1 = V.length by omega] at bf
      have lg := lo.get
      cases mv with
      | none =>
        refine wp_seq (wp_yesE (et_test (ev_op (ev_var rfl) ev_non (opd_isN rfl))) rfl (wp_retD ev_non (.inl ⟨rfl, fun u R hw hR => bf.calm hw hR⟩)))
      | some v =>
        refine wp_seq (wp_noE (et_test (ev_op (ev_var rfl) ev_non (opd_isN rfl))) rfl (wp_next ?_))
        obtain ⟨hD, per, pN, C⟩ := bf.cyc V rfl me
        have el : ∀ {B' : Bs} {Γ : List Sk} {a : Nat} {u : Node} {s : Step}, Γ[4]? = some (.dt kvs) → Γ[a]? = some (.im (ndD u)) → L u = some s → Ev B' (tDGet (tVar 4) (tVar a)) Γ (stepD s) := fun {B' Γ a u s} h1 h2 h3 => ev_dget (kd := tI (kk u)) (ev_var h2) (.inr (.inl ⟨_, _, h1, rfl, by rw [lg, h3]; rfl⟩))
        have el0 : ∀ {B' : Bs} {Γ : List Sk} {a : Nat} {u : Node} {s : Step}, Γ[4]? = some (.dt kvs) → Γ[a]? = some (.im (ndD u)) → L u = some s → Ev B' (tOp (rIx K) (tDGet (tVar 4) (tVar a)) (tC (.int 0))) Γ (ndD s.src) := fun h1 h2 h3 => ev_op (el h1 h2 h3) ev_int (opd_ixT rfl)
        refine wp_seq (wp_forR1 (n := (V.length : Nat)) (Pn := fun _ => True) (fun k Γ => ∃ s8, Γ = [.im (.list (S.map stepD)), .im (marksD ts), .im (pI (p, q)), .dt (bestL B q V), .dt kvs, s5, s6, s7, s8, .im (ndD (bk L v k)), t0, t1, t2, t3])
          (ea_cons (ev_eq (ev_lenDT rfl) (by rw [List.length_map])) ea_nil) (by omega) ⟨_, rfl⟩ (fun k Γ' hk ⟨s8, e⟩ => ?_) (fun Γ' ⟨s8, e⟩ => ?_))
        · subst e
          obtain ⟨s, h1, _, _, h4⟩ := hD k (by omega)
          exact tg_name (wp_set (ev_eq (el0 rfl rfl h1) (congrArg ndD h4)) ⟨_, rfl⟩)
        · subst e
          rw [Int.toNat_natCast]
          generalize bk L v V.length = y at C
          obtain ⟨e0, f1, f2, b1⟩ := Back.more (m := 0) (F := []) ⟨.nil y, rfl, fun s hs => (nomatch hs), rfl⟩ C
          refine wp_seq (wp_par (Ps := fun ss => ss = [.ml ([e0].map stepD), .im (ndD e0.src)]) (es_cons (evs_mono (evs_lst (ea_cons (el rfl rfl f1) ea_nil) (fun ds e => by rw [e]; exact Nat.le_of_ble_eq_true rfl)) fun s ⟨ds, a, b⟩ => by rw [a, b]; rfl) (es_cons (evs_d (el0 rfl rfl f1)) esp_nil)) fun ss e => ⟨_, _, e, ?_⟩)
          refine wp_seq (wp_while (fun k Γ => ∃ m F, Γ = [.im (.list (S.map stepD)), .im (marksD ts), .im (pI (p, q)), .dt (bestL B q V), .dt kvs, s5, s6, s7, s8, .im (ndD y), t0, t1, .im (ndD (bk L y m)), .ml (F.map stepD)] ∧ Back S L y m F ∧ 0 < m ∧ m ≤ per ∧ (∀ k, 0 < k → k < m → bk L y k ≠ y) ∧ k = per - m ∧ F.length < 100000) (per - 1) ⟨1, [e0], by rw [f2]; rfl, b1, by omega, C.pos, fun k h1 h2 => absurd h2 (by omega), rfl, by show 1 < 100000; decide⟩ ?_)
          rintro k Γ' ⟨m, F, rfl, bm, m0, mp, mn, rfl, fl⟩
          refine ⟨fun z => z = !decide (bk L y m = y), et_eq (et_test (ev_op (ev_var rfl) (ev_var rfl) (opd_ne (n := 1) (m := 1) rfl rfl (by decide) (by decide)))) ?_, fun e => ?_, fun e => ?_⟩
          · rw [eqv_node]
            congr 1
            exact decide_eq_decide.mpr ⟨fun ⟨a, b⟩ => Prod.ext a b, fun z => by rw [z]; exact ⟨rfl, rfl⟩⟩
          · have ne : bk L y m ≠ y := by simpa using e.symm
            obtain ⟨e1, g1, g2, b2⟩ := bm.more C
            have mlt : m < per := by
              rcases Nat.lt_or_ge m per with z | z
              · exact z
              · exact absurd (by rw [show m = per by omega]; exact C.back) ne
            refine wp_seq (wp_append rfl (el rfl rfl g1) (by rw [List.length_map]; omega) fun d e => ?_)
            subst e
            refine wp_set (el0 rfl rfl g1) ⟨per - (m + 1), by omega, m + 1, F ++ [e1], ?_, b2, by omega, by omega, fun k h1 h2 => ?_, rfl, ?_⟩
            · rw [g2, ← steps_app]
              rfl
            · by_cases z : k = m
              · rw [z]; exact ne
              · exact mn k h1 (by omega)
            · have := b2.len
              omega
          · have eq : bk L y m = y := by simpa using e.symm
            refine wp_freeze (i := 13) rfl rfl (wp_retD (ev_cb (ea_cons (ev_revL (ev_var rfl)) ea_nil) cd_tuple) (.inr ⟨F.reverse, by rw [List.map_reverse], ⟨⟨y, ?_⟩, ?_, fun s hs => (bm.mem s (List.mem_reverse.mp hs)).1, bm.simple eq mn⟩, ?_⟩))
            · have := bm.walk
              rwa [eq] at this
            · intro z
              have := bm.len
              rw [List.reverse_eq_nil_iff] at z
              rw [z] at this
              simp at this
              omega
            · refine bf.ring y F.reverse (by have := bm.walk; rwa [eq] at this) ?_ fun s hs => (bm.mem s (List.mem_reverse.mp hs)).2
              intro z
              have := bm.len
              rw [List.reverse_eq_nil_iff] at z
              rw [z] at this
              simp at this
              omega
end
end Dl
set_option Elab.async false
set_option linter.all false
set_option maxRecDepth 100000
set_option maxHeartbeats 1000000
/-! Walks 16: rings of a live flow. -/
namespace Dl
open PySem PySem.Spec PyProof.Rows L2 C8 Rf
def InS (f : Flow) (c : Nat → Nat) (s : Step) : Prop := InNeeds f c s ∨ InOwn f c s
def tsum (ts : List Nat) (R : List Step) : Int := gsum (fun s => ((rv ts s.a : Nat) : Int)) R
def lsum (R : List Step) : Int := gsum (fun s => s.lag) R
theorem gsum_wg (ts : List Nat) (p q : Int) (R : List Step) : gsum (wg ts p q) R = tsum ts R * q - lsum R * p := by
  unfold tsum lsum
  induction R with
  | nil => simp [gsum]
  | cons s R ih =>
    rw [gsum_cons, gsum_cons, gsum_cons, ih, Int.add_mul, Int.add_mul]
    unfold wg
    omega
structure Gph (S : List Step) (ts : List Nat) : Prop extends StOk S ts where
  lag : ∀ s ∈ S, 0 ≤ s.lag ∧ s.lag ≤ 500
  pos : ∀ u R, Walk u R u → R ≠ [] → (∀ s ∈ R, s ∈ S) → 0 < lsum R
  ex : ∃ u R, Walk u R u ∧ R ≠ [] ∧ (∀ s ∈ R, s ∈ S) ∧ 0 < tsum ts R
  nodes : ∃ U : List Node, U.length ≤ 12 ∧ ∀ s ∈ S, s.src ∈ U
  tl : ∀ t ∈ ts, t ≤ 99
/-! ### places in a word -/
theorem place {w : List Nat} {a k : Nat} (h : k < w.count a) : ∃ i, w[i]? = some a ∧ (w.take i).count a = k := by
  induction w generalizing k with
  | nil => simp at h
  | cons x w ih =>
    by_cases e : x = a
    · subst e
      cases k with
      | zero => exact ⟨0, rfl, rfl⟩
      | succ k =>
        rw [List.count_cons_self] at h
        obtain ⟨i, h1, h2⟩ := ih (k := k) (by omega)
        exact ⟨i + 1, by simpa using h1, by rw [List.take_succ_cons, List.count_cons_self, h2]⟩
    · rw [List.count_cons_of_ne (by simpa using e)] at h
      obtain ⟨i, h1, h2⟩ := ih h
      exact ⟨i + 1, by simpa using h1, by rw [List.take_succ_cons, List.count_cons_of_ne (by simpa using e), h2]⟩
theorem count_take_mono (w : List Nat) (a : Nat) {i j : Nat} (h : i ≤ j) : (w.take i).count a ≤ (w.take j).count a := by
  have : w.take i = (w.take j).take i := by rw [List.take_take, Nat.min_eq_left h]
  rw [this]
  exact (List.take_sublist _ _).count_le a
theorem run_take {f : Flow} : ∀ {w m : List Nat}, Run f w m → ∀ (i v : Nat), w[i]? = some v → ∃ m', Run f (w.take i) m' ∧ can f m' v
  | _, _, .nil, i, v, h => by simp at h
  | _, _, .snoc (w := w) (m := m) (v := x) r hx hc, i, v, h => by
    have hi := (List.getElem?_eq_some_iff.mp h).1
    rw [List.length_append, List.length_singleton] at hi
    by_cases e : i = w.length
    · subst e
      rw [List.getElem?_append_right (Nat.le_refl _), Nat.sub_self] at h
      have : x = v := Option.some.inj h
      subst this
      rw [List.take_left]
      exact ⟨m, r, hc⟩
    · rw [List.getElem?_append_left (by omega)] at h
      obtain ⟨m', h1, h2⟩ := run_take r i v h
      rw [List.take_append_of_le_length (by omega)]
      exact ⟨m', h1, h2⟩
theorem fdiv_pos_eq {a b : Int} (h : 0 < b) : a.fdiv b = a / b := Int.fdiv_eq_ediv_of_nonneg _ (by omega)
theorem fmod_pos_eq {a b : Int} (h : 0 < b) : a.fmod b = a % b := Int.fmod_eq_emod_of_nonneg _ (by omega)
section
variable {f : Flow} {c : Nat → Nat} (G : Fine f c)
include G
theorem Fine.place : ∃ (W : Nat) (pos : Node → Int), 0 < W ∧ ∀ s, InS f c s → (0 ≤ s.lag ∧ s.lag ≤ 401) ∧ (s.a < f.n ∧ s.k < rnd f c s.a ∧ s.b < f.n ∧ s.l < rnd f c s.b) ∧ pos s.src < pos s.dst + s.lag * W := by
  obtain ⟨w, m, r, hw⟩ := G.live
  have gd := G.toGood
  have ex : ∀ v : Node, ∃ i : Nat, v.1 < f.n → v.2 < rnd f c v.1 → (w[i]? = some v.1 ∧ (w.take i).count v.1 = v.2) := fun v => by
    by_cases h : v.1 < f.n ∧ v.2 < rnd f c v.1
    · obtain ⟨i, hi⟩ := Dl.place (w := w) (a := v.1) (k := v.2) (by rw [hw v.1 h.1]; exact h.2)
      exact ⟨i, fun _ _ => hi⟩
    · exact ⟨0, fun a b => absurd ⟨a, b⟩ h⟩
  have n0 := G.ok.n.1
  have w0 : 0 < w.length := by
    have h1 := hw 0 n0
    have h2 := (rnd_bd gd n0).1
    have := List.count_le_length (a := 0) (l := w)
    omega
  obtain ⟨pos, ps⟩ : ∃ pos : Node → Nat, ∀ v : Node, v.1 < f.n → v.2 < rnd f c v.1 → w[pos v]? = some v.1 ∧ (w.take (pos v)).count v.1 = v.2 := ⟨fun v => Classical.choose (ex v), fun v => Classical.choose_spec (ex v)⟩
  refine ⟨w.length, fun v => ((pos v : Nat) : Int), w0, fun s hs => ?_⟩
  have lt : ∀ v : Node, v.1 < f.n → v.2 < rnd f c v.1 → pos v < w.length := fun v h1 h2 => (List.getElem?_eq_some_iff.mp (ps v h1 h2).1).1
  have bef : ∀ (v : Node) (i : Nat), v.1 < f.n → v.2 < rnd f c v.1 → v.2 + 1 ≤ (w.take i).count v.1 → pos v < i := fun v i h1 h2 h3 => by
    rcases Nat.lt_or_ge (pos v) i with z | z
    · exact z
    · have a := count_take_mono w v.1 z
      have b := (ps v h1 h2).2
      omega
  rcases hs with ⟨p, hp, l, hl, rfl⟩ | ⟨b, hb, k, hk, rfl⟩
  · have pe := G.ends p hp
    obtain ⟨⟨g1, g2⟩, e1, e2⟩ := G.rate p hp
    have st := (G.ok.ok p hp).start
    have ra := rnd_bd gd pe.1
    obtain ⟨h1, h2⟩ := ps (p.other, l) pe.2 hl
    obtain ⟨m', r', hc⟩ := run_take r _ _ h1
    obtain ⟨i, hi, ei⟩ := List.mem_iff_getElem.mp hp
    have hpi : f.ps[i]? = some p := by rw [List.getElem?_eq_getElem hi, ei]
    obtain ⟨x, hx⟩ : ∃ x, m'[i]? = some x := ⟨_, List.getElem?_eq_getElem (by rw [r'.len]; exact hi)⟩
    have hcx := hc i p x hpi hx rfl
    have mk := r'.marks i p x hpi hx
    rw [h2] at mk
    generalize hA : (w.take (pos (p.other, l))).count p.one = A at mk
    have hAle : A ≤ rnd f c p.one := by
      rw [← hA, ← hw p.one pe.1]
      exact (List.take_sublist _ _).count_le _
    -- N + 1 ≤ A
    have hN : needN p l + 1 ≤ A := by
      unfold needN
      rw [fdiv_pos_eq (by omega)]
      have : -(A : Int) ≤ ((p.start : Int) - ((l : Int) + 1) * p.eat) / p.give := by
        rw [Int.le_ediv_iff_mul_le (by omega)]
        have mkI : (x : Int) + (p.eat : Int) * (l : Int) = (p.start : Int) + (p.give : Int) * (A : Int) := by exact_mod_cast mk
        have e : ((l : Int) + 1) * p.eat = (p.eat : Int) * l + p.eat := by rw [Int.add_mul, Int.one_mul, Int.mul_comm]
        rw [e, Int.neg_mul, Int.mul_comm (A : Int)]
        omega
      omega
    have hNl : -401 ≤ needN p l := by
      unfold needN
      rw [fdiv_pos_eq (by omega)]
      have hx : (p.start : Int) - ((l : Int) + 1) * p.eat ≤ 400 := by
        have : 0 ≤ ((l : Int) + 1) * p.eat := Int.mul_nonneg (by omega) (by omega)
        omega
      have : ((p.start : Int) - ((l : Int) + 1) * p.eat) / p.give ≤ 400 := by
        refine Int.ediv_le_of_le_mul (by omega) ?_
        have : (400 : Int) * 1 ≤ 400 * p.give := Int.mul_le_mul_of_nonneg_left (by omega) (by omega)
        omega
      omega
    have hr0 : (0 : Int) < (rnd f c p.one : Nat) := by omega
    generalize hNN : needN p l = N at hN hNl
    have q0 : N / (rnd f c p.one : Nat) ≤ 0 := by
      have : N / (rnd f c p.one : Nat) < 1 := Int.ediv_lt_of_lt_mul hr0 (by omega)
      omega
    have md := Int.emod_nonneg N (show ((rnd f c p.one : Nat) : Int) ≠ 0 by omega)
    have ml := Int.emod_lt_of_pos N hr0
    have dm := Int.mul_ediv_add_emod N (rnd f c p.one : Nat)
    have q3 : -401 ≤ N / (rnd f c p.one : Nat) := by
      rw [Int.le_ediv_iff_mul_le hr0]
      have : (-401 : Int) * (rnd f c p.one : Nat) ≤ -401 * 1 := Int.mul_le_mul_of_nonpos_left (by omega) (by omega)
      omega
    have es : needS f c p l = ⟨p.one, (N % (rnd f c p.one : Nat)).toNat, p.other, l, -(N / (rnd f c p.one : Nat))⟩ := by
      unfold needS
      rw [hNN, fdiv_pos_eq hr0, fmod_pos_eq hr0]
    rw [es]
    have kl : (N % (rnd f c p.one : Nat)).toNat < rnd f c p.one := by omega
    refine ⟨⟨by dsimp only; omega, by dsimp only; omega⟩, ⟨pe.1, kl, pe.2, hl⟩, ?_⟩
    show ((pos (p.one, (N % (rnd f c p.one : Nat)).toNat) : Nat) : Int) < (pos (p.other, l) : Nat) + -(N / (rnd f c p.one : Nat)) * (w.length : Nat)
    have l1 := lt (p.one, (N % (rnd f c p.one : Nat)).toNat) pe.1 kl
    rcases Int.lt_or_eq_of_le q0 with z | z
    · have : (1 : Int) * (w.length : Nat) ≤ -(N / (rnd f c p.one : Nat)) * (w.length : Nat) := Int.mul_le_mul_of_nonneg_right (by omega) (by omega)
      omega
    · rw [z, Int.mul_zero, Int.zero_add] at dm
      rw [z]
      have := bef (p.one, (N % (rnd f c p.one : Nat)).toNat) (pos (p.other, l)) pe.1 kl (by
        show (N % (rnd f c p.one : Nat)).toNat + 1 ≤ _
        rw [hA]
        omega)
      simp only [Int.neg_zero, Int.zero_mul, Int.add_zero]
      omega
  · have rb := rnd_bd gd hb
    unfold ownS
    by_cases z : 0 < k
    · rw [if_pos z]
      refine ⟨⟨by show (0 : Int) ≤ 0; decide, by show (0 : Int) ≤ 401; decide⟩, ⟨hb, by dsimp only; omega, hb, hk⟩, ?_⟩
      show ((pos (b, k - 1) : Nat) : Int) < (pos (b, k) : Nat) + 0 * (w.length : Nat)
      have := bef (b, k - 1) (pos (b, k)) hb (by dsimp only; omega) (by rw [(ps (b, k) hb hk).2]; dsimp only; omega)
      omega
    · rw [if_neg z]
      refine ⟨⟨by show (0 : Int) ≤ 1; decide, by show (1 : Int) ≤ 401; decide⟩, ⟨hb, by dsimp only; omega, hb, by dsimp only; omega⟩, ?_⟩
      show ((pos (b, rnd f c b - 1) : Nat) : Int) < (pos (b, 0) : Nat) + 1 * (w.length : Nat)
      have := lt (b, rnd f c b - 1) hb (by dsimp only; omega)
      omega
/-- the steps are a graph as the search wants it -/
theorem Fine.gph {S : List Step} {ts : List Nat} (ht : TimesOk f ts) (hS : ∀ s, s ∈ S ↔ InS f c s) (hl : S.length ≤ 28) : Gph S ts := by
  obtain ⟨W, pos, W0, hp⟩ := Fine.place G
  have gd := G.toGood
  have n0 := G.ok.n
  have r0 := rnd_bd gd n0.1
  refine ⟨⟨by omega, fun s hs => ?_⟩, fun s hs => ?_, fun u R hw ne hR => ?_, ?_, ?_, fun t h => (ht.ok t h).2⟩
  · obtain ⟨⟨h1, h2⟩, ⟨h3, _⟩, _⟩ := hp s ((hS s).mp hs)
    exact ⟨by rw [ht.len]; exact h3, by omega, by omega⟩
  · obtain ⟨⟨h1, h2⟩, _⟩ := hp s ((hS s).mp hs)
    exact ⟨h1, by omega⟩
  · have h := tele_lt (g := fun s => s.lag * W) (B := fun v => -(pos v)) hw (fun s hs => by
      have := (hp s ((hS s).mp (hR s hs))).2.2
      show -(pos s.dst) ≤ -(pos s.src) + s.lag * W
      omega) (by
      cases R with
      | nil => exact absurd rfl ne
      | cons s R => exact ⟨s, List.mem_cons_self, by
          have := (hp s ((hS s).mp (hR s List.mem_cons_self))).2.2
          show -(pos s.dst) < -(pos s.src) + s.lag * W
          omega⟩)
    have e : gsum (fun s => s.lag * W) R = lsum R * W := by
      unfold lsum
      clear h hw ne hR
      induction R with
      | nil => simp [gsum]
      | cons s R ih => rw [gsum_cons, gsum_cons, ih, Int.add_mul]
    rw [e] at h
    have h2 : 0 < lsum R * W := by omega
    exact Int.pos_of_mul_pos_left h2 (by omega)
  · have wk : ∀ m, m < rnd f c 0 → Walk (0, rnd f c 0 - 1) ((List.range (m + 1)).map (ownS f c 0)) (0, m) := by
      intro m
      induction m with
      | zero => intro _; exact .cons (s := ⟨0, rnd f c 0 - 1, 0, 0, 1⟩) (.nil _)
      | succ m ih =>
        intro hm
        rw [List.range_succ, List.map_append]
        refine (ih (by omega)).append ?_
        have : ownS f c 0 (m + 1) = ⟨0, m, 0, m + 1, 0⟩ := by unfold ownS; rw [if_pos (by omega)]; rfl
        show Walk (0, m) [ownS f c 0 (m + 1)] (0, m + 1)
        rw [this]
        exact .cons (s := ⟨0, m, 0, m + 1, 0⟩) (.nil _)
    have w1 := wk (rnd f c 0 - 1) (by omega)
    rw [show rnd f c 0 - 1 + 1 = rnd f c 0 by omega] at w1
    refine ⟨_, _, w1, fun z => ?_, fun s hs => ?_, ?_⟩
    · have := congrArg List.length z
      simp at this
      omega
    · obtain ⟨k, hk, rfl⟩ := List.mem_map.mp hs
      exact (hS _).mpr (.inr ⟨0, n0.1, k, List.mem_range.mp hk, rfl⟩)
    · have t1 : 1 ≤ rv ts 0 := by
        have hg := rv_get (r := ts) (v := 0) (by rw [ht.len]; exact n0.1)
        exact (ht.ok _ (List.mem_of_getElem? hg)).1
      have : ∀ m : Nat, tsum ts ((List.range m).map (ownS f c 0)) = (m : Int) * (rv ts 0 : Nat) := by
        intro m
        unfold tsum
        induction m with
        | zero => simp [gsum]
        | succ m ih =>
          rw [List.range_succ, List.map_append, gsum_append, ih]
          have : (ownS f c 0 m).a = 0 := by unfold ownS; split <;> rfl
          show _ + gsum _ [ownS f c 0 m] = _
          rw [gsum_cons, this]
          show _ + (_ + gsum _ []) = _
          have e0 : gsum (fun s => ((rv ts s.a : Nat) : Int)) [] = 0 := rfl
          rw [e0, Int.natCast_succ, Int.add_mul]
          omega
      rw [this]
      exact Int.mul_pos (by omega) (by omega)
  · refine ⟨(List.range f.n).flatMap fun b => (List.range (rnd f c b)).map fun k => (b, k), ?_, fun s hs => ?_⟩
    · rw [List.length_flatMap]
      have : ((List.range f.n).map fun b => ((List.range (rnd f c b)).map fun k => (b, k)).length).sum ≤ 4 * (List.range f.n).length := by
        have := sum_le4 (l := (List.range f.n).map fun b => ((List.range (rnd f c b)).map fun k => (b, k)).length) fun x hx => by
          obtain ⟨b, hb, rfl⟩ := List.mem_map.mp hx
          rw [List.length_map, List.length_range]
          exact (rnd_bd gd (List.mem_range.mp hb)).2
        rwa [List.length_map] at this
      rw [List.length_range] at this
      omega
    · obtain ⟨_, ⟨h1, h2, _⟩, _⟩ := hp s ((hS s).mp hs)
      exact List.mem_flatMap.mpr ⟨s.a, List.mem_range.mpr h1, List.mem_map.mpr ⟨s.k, List.mem_range.mpr h2, rfl⟩⟩
end
end Dl
set_option Elab.async false
set_option linter.all false
set_option maxRecDepth 100000
set_option maxHeartbeats 1000000
/-! Walks 17: means, the slowest ring. -/
namespace Dl
open PySem PySem.Spec PyProof.Rows L2 C8 Rf
theorem countP_lt {α : Type} {l : List α} {P P' : α → Bool} (h : ∀ x ∈ l, P' x = true → P x = true) {y : α} (hy : y ∈ l) (h1 : P y = true) (h2 : P' y = false) : l.countP P' < l.countP P := by
  have le : ∀ {l : List α}, (∀ x ∈ l, P' x = true → P x = true) → l.countP P' ≤ l.countP P := fun {l} h => List.countP_mono_left h
  induction l with
  | nil => cases hy
  | cons a l ih =>
    rcases List.mem_cons.mp hy with e | hy
    · subst e
      rw [List.countP_cons_of_pos h1, List.countP_cons_of_neg (by simp [h2])]
      have := le fun x hx => h x (List.mem_cons_of_mem _ hx)
      omega
    · have ih := ih (fun x hx => h x (List.mem_cons_of_mem _ hx)) hy
      cases e : P' a with
      | true =>
        rw [List.countP_cons_of_pos e, List.countP_cons_of_pos (h a List.mem_cons_self e)]
        omega
      | false =>
        rw [List.countP_cons_of_neg (by simp [e])]
        cases e' : P a with
        | true => rw [List.countP_cons_of_pos e']; omega
        | false => rw [List.countP_cons_of_neg (by simp [e'])]; omega
def pairs : List (Int × Int) := (List.range 1201).flatMap fun a : Nat => (List.range 6001).map fun b : Nat => ((a : Int), (b : Int))
theorem pairs_mem {a b : Int} (ha : 0 ≤ a ∧ a ≤ 1200) (hb : 0 ≤ b ∧ b ≤ 6000) : (a, b) ∈ pairs := by
  refine List.mem_flatMap.mpr ⟨a.toNat, List.mem_range.mpr (by omega), List.mem_map.mpr ⟨b.toNat, List.mem_range.mpr (by omega), ?_⟩⟩
  rw [Int.toNat_of_nonneg ha.1, Int.toNat_of_nonneg hb.1]
theorem pairs_nonneg {x : Int × Int} (h : x ∈ pairs) : 0 ≤ x.2 := by
  obtain ⟨a, _, h⟩ := List.mem_flatMap.mp h
  obtain ⟨b, _, rfl⟩ := List.mem_map.mp h
  exact Int.natCast_nonneg b
def meas (p q : Int) : Nat := pairs.countP fun x => decide (p * x.2 < x.1 * q)
/-- a greater mean leaves less above it -/
theorem meas_lt {p q T L : Int} (hq : 0 < q) (hT : 0 ≤ T ∧ T ≤ 1200) (hL : 0 < L ∧ L ≤ 6000) (h : 0 < T * q - L * p) : meas (rd T L).1 (rd T L).2 < meas p q := by
  obtain ⟨g, hg, e1, e2⟩ := rd_mul (a := T) hL.1
  have hp2 := rd_pos (a := T) hL.1
  generalize rd T L = r at *
  have h0 : p * r.2 < r.1 * q := by
    have : p * r.2 * g < r.1 * q * g := by
      have a : p * r.2 * g = L * p := by rw [e2]; simp [Int.mul_assoc, Int.mul_comm, Int.mul_left_comm]
      have b : r.1 * q * g = T * q := by rw [e1]; simp [Int.mul_assoc, Int.mul_comm, Int.mul_left_comm]
      rw [a, b]
      omega
    exact Int.lt_of_mul_lt_mul_right this (Int.le_of_lt hg)
  refine countP_lt (y := (T, L)) (fun x hx hP => ?_) (pairs_mem hT ⟨by omega, hL.2⟩) (decide_eq_true ?_) (decide_eq_false ?_)
  · have hP := of_decide_eq_true hP
    refine decide_eq_true ?_
    have x2 := pairs_nonneg hx
    have s1 : p * x.2 * r.2 ≤ r.1 * x.2 * q := by
      have := Int.mul_le_mul_of_nonneg_right (Int.le_of_lt h0) x2
      have a : p * r.2 * x.2 = p * x.2 * r.2 := by simp [Int.mul_assoc, Int.mul_comm, Int.mul_left_comm]
      have b : r.1 * q * x.2 = r.1 * x.2 * q := by simp [Int.mul_assoc, Int.mul_comm, Int.mul_left_comm]
      rw [a, b] at this
      exact this
    have s2 : r.1 * x.2 * q < x.1 * r.2 * q := Int.mul_lt_mul_of_pos_right hP hq
    have s3 : p * x.2 * r.2 < x.1 * q * r.2 := by
      have : x.1 * r.2 * q = x.1 * q * r.2 := by simp [Int.mul_assoc, Int.mul_comm, Int.mul_left_comm]
      omega
    exact Int.lt_of_mul_lt_mul_right s3 (Int.le_of_lt hp2)
  · show p * L < T * q
    rw [Int.mul_comm p L]
    omega
  · show ¬ r.1 * L < T * r.2
    rw [e1, e2]
    have : r.1 * (r.2 * g) = r.1 * g * r.2 := by simp [Int.mul_assoc, Int.mul_comm, Int.mul_left_comm]
    omega
theorem gsum_bd {g : Step → Int} {M : Int} : ∀ {R : List Step}, (∀ s ∈ R, 0 ≤ g s ∧ g s ≤ M) → 0 ≤ gsum g R ∧ gsum g R ≤ M * (R.length : Int)
  | [], _ => by simp [gsum]
  | s :: R, h => by
    have ih := gsum_bd fun t ht => h t (List.mem_cons_of_mem _ ht)
    have := h s List.mem_cons_self
    rw [gsum_cons, List.length_cons, Int.natCast_succ, Int.mul_add]
    omega
theorem rv_le {ts : List Nat} {M : Nat} (h : ∀ t ∈ ts, t ≤ M) (a : Nat) : rv ts a ≤ M := by
  unfold rv
  rw [List.getD_eq_getElem?_getD]
  cases e : ts[a]? with
  | none => exact Nat.zero_le _
  | some t => exact h t (List.mem_of_getElem? e)
theorem Gph.bd {S : List Step} {ts : List Nat} (G : Gph S ts) {R : List Step} (h : RingOf S R) : R.length ≤ 12 ∧ (0 ≤ tsum ts R ∧ tsum ts R ≤ 1200) ∧ (0 < lsum R ∧ lsum R ≤ 6000) := by
  obtain ⟨U, hU, hm⟩ := G.nodes
  have l12 : R.length ≤ 12 := by
    have := nodup_subG (D := U) h.simple fun x hx => by
      obtain ⟨s, hs, rfl⟩ := List.mem_map.mp hx
      exact hm s (h.mem s hs)
    rw [List.length_map] at this
    omega
  obtain ⟨u, hw⟩ := h.ex
  have t := gsum_bd (g := fun s => ((rv ts s.a : Nat) : Int)) (M := 99) (R := R) fun s _ => ⟨Int.natCast_nonneg _, by have := rv_le G.tl s.a; omega⟩
  have l := gsum_bd (g := fun s => s.lag) (M := 500) (R := R) fun s hs => G.lag s (h.mem s hs)
  have p := G.pos u R hw h.ne h.mem
  unfold tsum
  unfold lsum at p ⊢
  omega
def Slow (S : Step → Prop) (ts : List Nat) (R : List Step) : Prop := (∃ u, Walk u R u) ∧ R ≠ [] ∧ (∀ s ∈ R, S s) ∧ (R.map Step.src).Nodup ∧ ∀ u R', Walk u R' u → (∀ s ∈ R', S s) → tsum ts R' * lsum R ≤ lsum R' * tsum ts R
section
variable {P : Program} {w : World} {K : PySem.W.Frag} {mg : PySem.Str → Option Value} {base : Heap}
abbrev ringD (R : List Step) : PyData := .tuple (R.map stepD)
abbrev eRT (x : List Step × List Nat) : List PyData := [ringD x.1, marksD x.2]
structure MeanOk (x : List Step × List Nat) : Prop where
  len : x.1.length ≤ 1000
  ok : ∀ s ∈ x.1, s.a < x.2.length
  pos : 0 < lsum x.1 ∧ lsum x.1 < 1073741824
abbrev spMean : Sp := spA eRT MeanOk (fun x r => r = pI (rd (tsum x.2 x.1) (lsum x.1)))
theorem bn_step {K : PySem.W.Frag} {B : Bs} {Γ : List Sk} {vs : List Nat} {i j l : Nat} (s : Step) (hi : i ∈ vs) (hj : j ∈ vs) (hl : l ∈ vs) : BnN B (gTup K 3 (gCons (gName i) (gCons (gName j) (gCons (gName l) gNil)))) (stepD s) vs Γ (((Γ.set i (.im (ndD s.src))).set j (.im (ndD s.dst))).set l (.im (.int s.lag))) :=
  bn_tup rfl (bns_cons (bn_name hi) (bns_cons (bn_name hj) (bns_cons (bn_name hl) bns_nil)))
theorem ints_of {g : Step → Int} (R : List Step) : (R.map fun s => PyData.int (g s)) = (R.map g).map PyData.int := by rw [List.map_map]; rfl
theorem cd_sumS {K : PySem.W.Frag} {g : Step → Int} {R : List Step} : CallD (rSum K) [.list (R.map fun s => .int (g s))] (fun x => x = .int (gsum g R)) := by
  rw [ints_of]
  exact cd_sum
theorem sc_mean_of : FnScope ["ring", "times", "first", "second", "lag"] ["ring", "times"] (defScope s_mean_of) := ⟨rfl, rfl, rfl, by decide +kernel, rfl, by decide +kernel, by decide +kernel⟩
theorem ok_mean_of (T : Tx mg) (F : Df K mg "mean_of" s_mean_of) (c_reduced : Cal P w K mg base 2 "reduced" spRed []) : Cal P w K mg base 3 "mean_of" spMean [] := by
  refine calA _ _ _ F sc_mean_of rfl (by decide) (fun _ => rfl) (fun _ _ _ _ _ _ us hl => match us, hl with | [_, _], _ => rfl) fun f cdv A outer s H E hr => ⟨_,
    (pss_one (ps_ret (pe_c c_reduced hr (by decide) (by rfl) (pa_cons (pe_callB (cr_sum rfl) (by rfl) T.m_sum (by decide +kernel) (pa_cons (pe_lc (own := [("first", 2), ("second", 3), ("lag", 4)]) (g := (gTup K 3 (gCons (gName 2) (gCons (gName 3) (gCons (gName 4) gNil))))) (tt := tYes) rfl sc_mean_of.nd (pi_tup (pv 0)) (blkOk_by (own := [("first", 2), ("second", 3), ("lag", 4)]) (N := ["ring", "times", "first", "second", "lag"]) (sc := defScope s_mean_of) (by decide +kernel)) (fun _ _ _ _ _ => (pg_tup rfl (pgs_cons (pg_name (i := 2) sc_mean_of.nd rfl (.inl rfl)) (pgs_cons (pg_name (i := 3) sc_mean_of.nd rfl (.inl rfl)) (pgs_cons (pg_name (i := 4) sc_mean_of.nd rfl (.inl rfl)) pgs_nil))))) (fun _ _ _ _ _ => pts_nil) (fun _ _ _ _ _ => (pe_ix (ix_seqK (K := K) rfl) (pv 1) (pe_ix (ix_seqK (K := K) rfl) (pv 2) pe_int (fun _ _ => rfl)) (fun _ _ => rfl)))) pa_nil)) (pa_cons (pe_callB (cr_sum rfl) (by rfl) T.m_sum (by decide +kernel) (pa_cons (pe_lc (own := [("first", 2), ("second", 3), ("lag", 4)]) (g := (gTup K 3 (gCons (gName 2) (gCons (gName 3) (gCons (gName 4) gNil))))) (tt := tYes) rfl sc_mean_of.nd (pi_tup (pv 0)) (blkOk_by (own := [("first", 2), ("second", 3), ("lag", 4)]) (N := ["ring", "times", "first", "second", "lag"]) (sc := defScope s_mean_of) (by decide +kernel)) (fun _ _ _ _ _ => (pg_tup rfl (pgs_cons (pg_name (i := 2) sc_mean_of.nd rfl (.inl rfl)) (pgs_cons (pg_name (i := 3) sc_mean_of.nd rfl (.inl rfl)) (pgs_cons (pg_name (i := 4) sc_mean_of.nd rfl (.inl rfl)) pgs_nil))))) (fun _ _ _ _ _ => pts_nil) (fun _ _ _ _ _ => (pv 4))) pa_nil)) pa_nil))))), fun F0 x hx => ?_⟩
  obtain ⟨R, ts⟩ := x
  obtain ⟨h1, h2, h3, h4⟩ := hx
  simp only at h1 h2 h3 h4
  show Wp _ _ ([.im (ringD R), .im (marksD ts)] ++ List.replicate _ .un) _
  refine wp_retD (ev_callA ((tsum ts R, lsum R) : Int × Int) (ea_cons (ev_cb (ea_cons (ev_lcTy (fun s => .int (rv ts s.a : Nat)) stepD_inj (ev_var rfl) (by omega) fun s hs => ⟨_, bn_step s (by simp) (by simp) (by simp), ev_ixNT (ev_var rfl) (ev_op (ev_var rfl) ev_int (opd_ixT rfl)) (rv_get (h2 s hs))⟩) ea_nil) cd_sumS)
    (ea_cons (ev_cb (ea_cons (ev_lcTy (fun s => .int s.lag) stepD_inj (ev_var rfl) (by omega) fun s hs => ⟨_, bn_step s (by simp) (by simp) (by simp), ev_var rfl⟩) ea_nil) (cd_sumS (g := fun s => s.lag))) ea_nil)) rfl (by exact ⟨h3, h4⟩)) rfl
theorem sc_slowest : FnScope ["steps", "times", "found", "mean", "ring"] ["steps", "times"] (defScope s_slowest) := ⟨rfl, rfl, rfl, by decide +kernel, rfl, by decide +kernel, by decide +kernel⟩
abbrev eST (x : List Step × List Nat) : List PyData := [.list (x.1.map stepD), marksD x.2]
def SlowPost (x : List Step × List Nat) (r : PyData) : Prop := ∃ R, r = .tuple [pI (rd (tsum x.2 R) (lsum R)), ringD R] ∧ Slow (fun s => s ∈ x.1) x.2 R ∧ 0 < lsum R ∧ lsum R ≤ 6000 ∧ R.length ≤ 12
abbrev spSlow : Sp := spA eST (fun x => Gph x.1 x.2) SlowPost
theorem ok_slowest (T : Tx mg) (F : Df K mg "slowest" s_slowest) (c_longer_ring : Cal P w K mg base 3 "longer_ring" spLr []) (c_mean_of : Cal P w K mg base 3 "mean_of" spMean []) : Cal P w K mg base 4 "slowest" spSlow [] := by
  refine calA _ _ _ F sc_slowest rfl (by decide) (fun _ => rfl) (fun _ _ _ _ _ _ us hl => match us, hl with | [_, _], _ => rfl) fun f cdv A outer s H E hr => ⟨_,
    (pss_cons (ps_asg (pe_tup (pa_cons pe_non (pa_cons (pe_tup (pa_cons pe_int (pa_cons pe_int pa_nil))) pa_nil))) (pg_tup rfl (pgs_cons (pg_name (i := 2) sc_slowest.nd rfl (.inl rfl)) (pgs_cons (pg_name (i := 3) sc_slowest.nd rfl (.inl rfl)) pgs_nil))))
      (pss_one (ps_while PassesOwn.never (pt_val pe_bl) (pss_cons (ps_set (i := 4) sc_slowest.nd rfl (.inl rfl) (pe_c c_longer_ring hr (by decide) (by rfl) (pa_cons (pv 0) (pa_cons (pv 1) (pa_cons (pv 3) pa_nil)))))
      (pss_cons (ps_if (pt_cmpR op_isN (pv 4) pe_non (nomark _)) (pss_one (ps_ret (pe_tup (pa_cons (pv 3) (pa_cons (pv 2) pa_nil))))) pss_nil)
      (pss_one (ps_par (i := 2) (j := 3) (by rfl) sc_slowest.nd rfl rfl (by decide) rfl rfl (pa_cons (pv 4) (pa_cons (pe_c c_mean_of hr (by decide) (by rfl) (pa_cons (pv 4) (pa_cons (pv 1) pa_nil))) pa_nil)) (by rfl)))))))), fun F0 x hx => ?_⟩
  obtain ⟨S, ts⟩ := x
  have G : Gph S ts := hx
  show Wp _ _ ([.im (.list (S.map stepD)), .im (marksD ts)] ++ List.replicate _ .un) _
  refine wp_seq (wp_asgT (Ps := fun ss => ss = [.im .none, .im (pI (0, 1))]) (es_cons (evs_d ev_non) (es_cons (evs_d (ev_tup (ea_cons ev_int (ea_cons ev_int ea_nil)))) esp_nil)) fun ss e => ?_)
  subst e
  refine ⟨rfl, by show 2 ≤ 100000; decide, bts_name (bts_name (bts_nil ?_))⟩
  refine wp_while (fun m Γ => ∃ fd p q s4, Γ = [.im (.list (S.map stepD)), .im (marksD ts), .im fd, .im (pI (p, q)), s4] ∧ (0 < q ∧ q < 32000) ∧ ((fd = .none ∧ p = 0 ∧ q = 1) ∨ ∃ R, fd = ringD R ∧ RingOf S R ∧ (p, q) = rd (tsum ts R) (lsum R)) ∧ m = meas p q) (meas 0 1) ⟨.none, 0, 1, _, rfl, by decide, .inl ⟨rfl, rfl, rfl⟩, rfl⟩ ?_
  rintro m Γ' ⟨fd, p, q, s4, rfl, ⟨q1, q2⟩, hf, rfl⟩
  refine ⟨fun b => b = true, et_B ev_bl, fun _ => ?_, fun z => by cases z⟩
  refine wp_seq (wp_setP (ev_callA (⟨S, ts, p, q⟩ : LrIn) (ea_cons (ev_var rfl) (ea_cons (ev_var rfl) (ea_cons (ev_var rfl) ea_nil))) rfl (by exact ⟨G.toStOk, q1, q2⟩)) fun d hd => ?_)
  rcases hd with ⟨rfl, no⟩ | ⟨R, rfl, hR, hg⟩
  · refine wp_seq (wp_yesE (et_test (ev_op (ev_var rfl) ev_non (opd_isN rfl))) rfl ?_)
    simp only at no
    rcases hf with ⟨rfl, rfl, rfl⟩ | ⟨R, rfl, hR, e⟩
    · obtain ⟨u, R, hw, _, hm, ht⟩ := G.ex
      have := no u R hw hm
      rw [gsum_wg] at this
      omega
    · obtain ⟨hl, ht, hlp⟩ := G.bd hR
      refine wp_retD (ev_tup (ea_cons (ev_var rfl) (ea_cons (ev_var rfl) ea_nil))) ⟨R, by rw [← e], ⟨hR.ex, hR.ne, hR.mem, hR.simple, fun u R' hw hm => ?_⟩, hlp.1, hlp.2, hl⟩
      have h := no u R' hw hm
      rw [gsum_wg] at h
      obtain ⟨g, hg, e1, e2⟩ := rd_mul (a := tsum ts R) hlp.1
      rw [← e] at e1 e2
      simp only at e1 e2
      show tsum ts R' * lsum R ≤ lsum R' * tsum ts R
      rw [e1, e2]
      have := Int.mul_le_mul_of_nonneg_right (show tsum ts R' * q ≤ lsum R' * p by omega) (Int.le_of_lt hg)
      rw [Int.mul_assoc, Int.mul_assoc] at this
      exact this
  · refine wp_seq (wp_noE (et_test (ev_op (ev_var rfl) ev_non (opd_isN rfl))) rfl (wp_next ?_))
    obtain ⟨hl, ht, hlp⟩ := G.bd hR
    simp only at hg
    rw [gsum_wg] at hg
    have pr := rd_pos (a := tsum ts R) hlp.1
    have pl := rd_le (a := tsum ts R) hlp.1
    refine wp_par (Ps := fun ss => ss = [.im (ringD R), .im (pI (rd (tsum ts R) (lsum R)))]) (es_cons (evs_d (ev_var rfl)) (es_cons (evs_d (ev_callA ((R, ts) : List Step × List Nat) (ea_cons (ev_var rfl) (ea_cons (ev_var rfl) ea_nil)) rfl (by exact ⟨by dsimp only; omega, fun s hs => (G.ok s (hR.mem s hs)).1, hlp.1, by dsimp only; omega⟩))) esp_nil)) fun ss e => ⟨_, _, e, ?_⟩
    exact ⟨_, meas_lt q1 ht hlp hg, _, (rd (tsum ts R) (lsum R)).1, (rd (tsum ts R) (lsum R)).2, _, rfl, ⟨pr, by omega⟩, .inr ⟨R, rfl, hR, rfl⟩, rfl⟩
end
end Dl
set_option Elab.async false
set_option linter.all false
set_option maxRecDepth 100000
set_option maxHeartbeats 1000000
/-! Walks 18: mean_time, slow_ring, shows_slow_ring. -/
namespace Dl
open PySem PySem.Spec PyProof.Rows L2 C8 Rf
theorem Slow.congr {S S' : Step → Prop} (h : ∀ s, S s ↔ S' s) {ts : List Nat} {R : List Step} (a : Slow S ts R) : Slow S' ts R :=
  ⟨a.1, a.2.1, fun s hs => (h s).mp (a.2.2.1 s hs), a.2.2.2.1, fun u R' hw hm => a.2.2.2.2 u R' hw fun s hs => (h s).mpr (hm s hs)⟩
structure SlowF (f : Flow) (c : Nat → Nat) (ts : List Nat) (R : List Step) : Prop where
  slow : Slow (InS f c) ts R
  pos : 0 < lsum R ∧ lsum R ≤ 6000
  len : R.length ≤ 12
theorem SlowF.same {f : Flow} {c : Nat → Nat} {ts : List Nat} {R R' : List Step} (a : SlowF f c ts R) (b : SlowF f c ts R') : rd (tsum ts R) (lsum R) = rd (tsum ts R') (lsum R') := by
  obtain ⟨u, hw⟩ := a.slow.1
  obtain ⟨u', hw'⟩ := b.slow.1
  have h1 := a.slow.2.2.2.2 u' R' hw' b.slow.2.2.1
  have h2 := b.slow.2.2.2.2 u R hw a.slow.2.2.1
  refine rd_eq a.pos.1 b.pos.1 ?_
  rw [Int.mul_comm (lsum R')] at h1
  rw [Int.mul_comm (lsum R)] at h2
  omega
theorem walk_first {u v : Node} {R : List Step} {s : Step} (h : Walk u R v) (hs : R[0]? = some s) : s.src = u := by
  cases h with
  | nil => simp at hs
  | cons h => simp at hs; rw [hs]
theorem walk_adj : ∀ {R : List Step} {u v : Node} {k : Nat} {s t : Step}, Walk u R v → R[k]? = some t → R[k + 1]? = some s → t.dst = s.src
  | [], _, _, _, _, _, _, h, _ => by simp at h
  | a :: R, u, v, 0, s, t, hw, h1, h2 => by
    obtain ⟨_, hw'⟩ := hw.inv
    have : a = t := by simpa using h1
    subst this
    exact (walk_first hw' (by simpa using h2)).symm
  | a :: R, u, v, k + 1, s, t, hw, h1, h2 => by
    obtain ⟨_, hw'⟩ := hw.inv
    exact walk_adj hw' (by simpa using h1) (by simpa using h2)
theorem walk_nil {u v : Node} (h : Walk u [] v) : u = v := by cases h; rfl
theorem walk_last : ∀ {R : List Step} {u v : Node} {t : Step}, Walk u (R ++ [t]) v → t.dst = v := fun {R u v t} h => by
  obtain ⟨x, _, h2⟩ := h.split
  obtain ⟨_, h3⟩ := h2.inv
  exact walk_nil h3
section
variable {P : Program} {w : World} {K : PySem.W.Frag} {mg : PySem.Str → Option Value} {base : Heap}
def MeanPost (x : Flow × (Nat → Nat) × List Nat) (r : PyData) : Prop := ∃ R, r = pI (rd (tsum x.2.2 R) (lsum R)) ∧ SlowF x.1 x.2.1 x.2.2 R
def RingPost (x : Flow × (Nat → Nat) × List Nat) (r : PyData) : Prop := ∃ R, r = ringD R ∧ SlowF x.1 x.2.1 x.2.2 R
abbrev spMeanT : Sp := spA eFCT (fun x => Fine x.1 x.2.1 ∧ TimesOk x.1 x.2.2) MeanPost
abbrev spRingT : Sp := spA eFCT (fun x => Fine x.1 x.2.1 ∧ TimesOk x.1 x.2.2) RingPost
/-- slowest(steps_in(flow), times) -/
theorem ev_slow {B : Bs} {Γ : List Sk} {f : Flow} {c : Nat → Nat} {ts : List Nat} {E E' : XK} (G : Fine f c) (ht : TimesOk f ts) (h0 : Γ[0]? = some (.im (flowD f))) (h1 : Γ[1]? = some (.im (marksD ts))) :
    EvP B (tCall spSlow [] E (tCons (tCall spSteps [] E' (tCons (tVar 0) tNil)) (tCons (tVar 1) tNil))) Γ (fun r => ∃ R, r = .tuple [pI (rd (tsum ts R) (lsum R)), ringD R] ∧ SlowF f c ts R) := by
  refine evp_callA (Ps := fun ds => ∃ L : List Step, ds = [.list (L.map stepD), marksD ts] ∧ (∀ s, s ∈ L ↔ InS f c s) ∧ L.length ≤ 28) (eap_cons (ev_callA (f, c) (ea_cons (ev_var h0) ea_nil) rfl (by exact ⟨G.toGood, G.ok.len, G.ok.n.2⟩)) (fun _ _ => ea_cons (ev_var h1) ea_nil) fun d ds ⟨L, e, m, l⟩ e2 => ⟨L, by rw [e, e2], m, l⟩) fun ds ⟨L, e, m, l⟩ => ⟨(L, ts), e, G.gph ht m l, fun d ⟨R, e, sl, p1, p2, l2⟩ => ⟨R, e, sl.congr m, ⟨p1, p2⟩, l2⟩⟩
theorem sc_mean_time : FnScope ["flow", "times"] ["flow", "times"] (defScope s_mean_time) := ⟨rfl, rfl, rfl, by decide +kernel, rfl, by decide +kernel, by decide +kernel⟩
theorem ok_mean_time (T : Tx mg) (F : Df K mg "mean_time" s_mean_time) (c_need_timed : Cal P w K mg base 10 "need_timed" spTimed []) (c_slowest : Cal P w K mg base 4 "slowest" spSlow []) (c_steps_in : Cal P w K mg base 8 "steps_in" spSteps []) : Cal P w K mg base 11 "mean_time" spMeanT [] := by
  refine calA _ _ _ F sc_mean_time rfl (by decide) (fun _ => rfl) (fun _ _ _ _ _ _ us hl => match us, hl with | [_, _], _ => rfl) fun f cdv A outer s H E hr => ⟨_,
    (pss_cons (ps_expr (pe_c c_need_timed hr (by decide) (by rfl) (pa_cons (pv 0) (pa_cons (pv 1) pa_nil))))
      (pss_one (ps_ret (pe_ix ix_seq (pe_c c_slowest hr (by decide) (by rfl) (pa_cons (pe_c c_steps_in hr (by decide) (by rfl) (pa_cons (pv 0) pa_nil)) (pa_cons (pv 1) pa_nil))) pe_int (fun _ _ => rfl))))), fun F0 x hx => ?_⟩
  obtain ⟨f, c, ts⟩ := x
  have G : Fine f c ∧ TimesOk f ts := hx
  refine wp_seq (wp_drop (ev_callA (f, c, ts) (ea_cons (ev_var rfl) (ea_cons (ev_var rfl) ea_nil)) rfl G) fun _ _ => ?_)
  refine wp_ret (evp_op (ev_slow G.1 G.2 rfl rfl) (fun _ _ => ev_int) (P := MeanPost (f, c, ts)) fun da db ⟨R, e, h⟩ e2 => ?_) fun d h => h
  subst e e2
  exact opd_mono (opd_ixT rfl) fun d e => ⟨R, e, h⟩
theorem sc_slow_ring : FnScope ["flow", "times"] ["flow", "times"] (defScope s_slow_ring) := ⟨rfl, rfl, rfl, by decide +kernel, rfl, by decide +kernel, by decide +kernel⟩
theorem ok_slow_ring (T : Tx mg) (F : Df K mg "slow_ring" s_slow_ring) (c_need_timed : Cal P w K mg base 10 "need_timed" spTimed []) (c_slowest : Cal P w K mg base 4 "slowest" spSlow []) (c_steps_in : Cal P w K mg base 8 "steps_in" spSteps []) : Cal P w K mg base 11 "slow_ring" spRingT [] := by
  refine calA _ _ _ F sc_slow_ring rfl (by decide) (fun _ => rfl) (fun _ _ _ _ _ _ us hl => match us, hl with | [_, _], _ => rfl) fun f cdv A outer s H E hr => ⟨_,
    (pss_cons (ps_expr (pe_c c_need_timed hr (by decide) (by rfl) (pa_cons (pv 0) (pa_cons (pv 1) pa_nil))))
      (pss_one (ps_ret (pe_ix ix_seq (pe_c c_slowest hr (by decide) (by rfl) (pa_cons (pe_c c_steps_in hr (by decide) (by rfl) (pa_cons (pv 0) pa_nil)) (pa_cons (pv 1) pa_nil))) pe_int (fun _ _ => rfl))))), fun F0 x hx => ?_⟩
  obtain ⟨f, c, ts⟩ := x
  have G : Fine f c ∧ TimesOk f ts := hx
  refine wp_seq (wp_drop (ev_callA (f, c, ts) (ea_cons (ev_var rfl) (ea_cons (ev_var rfl) ea_nil)) rfl G) fun _ _ => ?_)
  refine wp_ret (evp_op (ev_slow G.1 G.2 rfl rfl) (fun _ _ => ev_int) (P := RingPost (f, c, ts)) fun da db ⟨R, e, h⟩ e2 => ?_) fun d h => h
  subst e e2
  exact opd_mono (opd_ixT rfl) fun d e => ⟨R, e, h⟩
theorem sc_is_step : FnScope ["value", "firing"] ["value"] (defScope s_is_step) := ⟨rfl, rfl, rfl, by decide +kernel, rfl, by decide +kernel, by decide +kernel⟩
structure StepIn (s : Step) : Prop where
  a : s.a ≤ 99
  b : s.b ≤ 99
  k : s.k ≤ 9999
  l : s.l ≤ 9999
  lag : 0 ≤ s.lag ∧ s.lag ≤ 99999
abbrev spIsStep : Sp := spA (fun s : Step => [stepD s]) StepIn (fun _ r => r = .bool true)
theorem ok_is_step (T : Tx mg) (F : Df K mg "is_step" s_is_step) (c_is_in : Cal P w K mg base 1 "is_in" spIsIn []) : Cal P w K mg base 2 "is_step" spIsStep [] := by
  refine calA _ _ _ F sc_is_step rfl (by decide) (fun _ => rfl) (fun _ _ _ _ _ _ us hl => match us, hl with | [_], _ => rfl) fun f cdv A outer s H E hr => ⟨_,
    (pss_cons (ps_if (PW.pt (pw_or (pt_not (pt_val (pe_callB call_isi (by rfl) T.m_isinstance (by decide +kernel) (pa_cons (pv 0) (pa_cons (pe_bltn (v := .ty "tuple") (by rfl) T.m_tuple (by decide +kernel) rfl) pa_nil))))) (pw_or (pt_cmpR (op_neD (hu64 hr)) (pe_callB call_len_seq (by rfl) T.m_len PySem.boot_len (pa_cons (pv 0) pa_nil)) pe_int (nomark _)) (pw_or1 (pt_not (pt_val (pe_c c_is_in hr (by decide) (by rfl) (pa_cons (pe_ix ix_seq (pv 0) pe_int (fun _ _ => rfl)) (pa_cons (pe_un un_neg pe_int) (pa_cons pe_int pa_nil)))))))))) (pss_one (ps_ret pe_bl)) pss_nil)
      (pss_cons (ps_for PassesOwn.never rfl (pi_tup (pe_slice sl_tupA (pv 0) po_none (po_some pe_int))) (pg_name (i := 1) sc_is_step.nd rfl (.inl rfl)) (pss_cons (ps_if (PW.pt (pw_or (pt_not (pt_val (pe_callB call_isi (by rfl) T.m_isinstance (by decide +kernel) (pa_cons (pv 1) (pa_cons (pe_bltn (v := .ty "tuple") (by rfl) T.m_tuple (by decide +kernel) rfl) pa_nil))))) (pw_or1 (pt_cmpR (op_neD (hu64 hr)) (pe_callB call_len_seq (by rfl) T.m_len PySem.boot_len (pa_cons (pv 1) pa_nil)) pe_int (nomark _))))) (pss_one (ps_ret pe_bl)) pss_nil)
      (pss_one (ps_if (PW.pt (pw_or (pt_not (pt_val (pe_c c_is_in hr (by decide) (by rfl) (pa_cons (pe_ix ix_seq (pv 1) pe_int (fun _ _ => rfl)) (pa_cons pe_int (pa_cons pe_int pa_nil)))))) (pw_or1 (pt_not (pt_val (pe_c c_is_in hr (by decide) (by rfl) (pa_cons (pe_ix ix_seq (pv 1) pe_int (fun _ _ => rfl)) (pa_cons pe_int (pa_cons pe_int pa_nil))))))))) (pss_one (ps_ret pe_bl)) pss_nil))))
      (pss_one (ps_ret pe_bl)))), fun F0 x hx => ?_⟩
  obtain ⟨h1, h2, h3, h4, h5⟩ := hx
  have sl : ∀ {B : Bs} {Γ : List Sk}, Γ[0]? = some (.im (stepD x)) → Ev B (tSl (rSlA K) (tVar 0) tNoPart (tPart (tC (.int 2)))) Γ (.tuple ([x.src, x.dst].map ndD)) := fun h => ev_sliceT (ev_var h) eo_no (eo_part ev_int)
  refine wp_seq (wp_noE (et_or (et_not (et_B (ev_isi (ev_var rfl) kit_tt))) fun _ => et_or (et_neI (ev_cb (ea_cons (ev_var rfl) ea_nil) cd_lenT) ev_int) fun _ => et_not (et_B (ev_isin (ev_op (ev_var rfl) ev_int (opd_ixT rfl)) (ev_neg ev_int) ev_int (by omega)))) rfl (wp_next ?_))
  refine wp_seq (wp_forT (fun i Γ => ∃ s1, Γ = [.im (stepD x), s1]) (sl rfl) ⟨_, rfl⟩ (fun i d Γ' hd ⟨s1, e⟩ => ?_) (fun Γ' ⟨s1, e⟩ => wp_retD ev_bl rfl))
  subst e
  obtain ⟨v, hv, rfl⟩ := map_get hd
  have hv2 : v.1 ≤ 99 ∧ v.2 ≤ 9999 := by
    have := List.mem_of_getElem? hv
    simp at this
    rcases this with rfl | rfl
    · exact ⟨h1, h3⟩
    · exact ⟨h2, h4⟩
  refine tg_name (wp_seq (wp_noE (et_or (et_not (et_B (ev_isi (ev_var rfl) kit_tt))) fun _ => et_neI (ev_cb (ea_cons (ev_var rfl) ea_nil) cd_lenT) ev_int) rfl (wp_next ?_)))
  exact wp_noE (et_or (et_not (et_B (ev_isin (ev_op (ev_var rfl) ev_int (opd_ixT rfl)) ev_int ev_int (by omega)))) fun _ => et_not (et_B (ev_isin (ev_op (ev_var rfl) ev_int (opd_ixT rfl)) ev_int ev_int (by omega)))) rfl (wp_next ⟨_, rfl⟩)
theorem sc_shows_slow_ring : FnScope ["flow", "times", "value", "steps", "step", "k"] ["flow", "times", "value"] (defScope s_shows_slow_ring) := ⟨rfl, rfl, rfl, by decide +kernel, rfl, by decide +kernel, by decide +kernel⟩
abbrev spShows : Sp := spA (fun x : (Flow × (Nat → Nat) × List Nat) × List Step => [flowD x.1.1, marksD x.1.2.2, ringD x.2]) (fun x => (Fine x.1.1 x.1.2.1 ∧ TimesOk x.1.1 x.1.2.2) ∧ SlowF x.1.1 x.1.2.1 x.1.2.2 x.2) (fun _ r => r = .bool true)
theorem flt_false {α : Type} (xs : List α) : xs.filter (fun _ => false) = [] := by simp
theorem eqv_nil (R : List Step) (h : R ≠ []) : PyData.eqv (ringD R) (.tuple []) = false := by
  cases R with
  | nil => exact absurd rfl h
  | cons s R => rfl
theorem ok_shows_slow_ring (T : Tx mg) (F : Df K mg "shows_slow_ring" s_shows_slow_ring) (c_is_step : Cal P w K mg base 2 "is_step" spIsStep []) (c_mean_of : Cal P w K mg base 3 "mean_of" spMean []) (c_need_timed : Cal P w K mg base 10 "need_timed" spTimed []) (c_slowest : Cal P w K mg base 4 "slowest" spSlow []) (c_steps_in : Cal P w K mg base 8 "steps_in" spSteps []) : Cal P w K mg base 11 "shows_slow_ring" spShows [] := by
  refine calA _ _ _ F sc_shows_slow_ring rfl (by decide) (fun _ => rfl) (fun _ _ _ _ _ _ us hl => match us, hl with | [_, _, _], _ => rfl) fun f cdv A outer s H E hr => ⟨_,
    (pss_cons (ps_expr (pe_c c_need_timed hr (by decide) (by rfl) (pa_cons (pv 0) (pa_cons (pv 1) pa_nil))))
      (pss_cons (ps_if (PW.pt (pw_or (pt_not (pt_val (pe_callB call_isi (by rfl) T.m_isinstance (by decide +kernel) (pa_cons (pv 2) (pa_cons (pe_bltn (v := .ty "tuple") (by rfl) T.m_tuple (by decide +kernel) rfl) pa_nil))))) (pw_or1 (pt_cmpR (op_eqD (hu64 hr)) (pv 2) (pe_tup pa_nil) (nomark _))))) (pss_one (ps_ret pe_bl)) pss_nil)
      (pss_cons (ps_set (i := 3) sc_shows_slow_ring.nd rfl (.inr rfl) (pe_c c_steps_in hr (by decide) (by rfl) (pa_cons (pv 0) pa_nil)))
      (pss_cons (ps_if (pt_cmpR (op_neD (hu64 hr)) (pe_lc (own := [("step", 4)]) (g := (gName 4)) rfl sc_shows_slow_ring.nd (pi_tup (pv 2)) (blkOk_by (own := [("step", 4)]) (N := ["flow", "times", "value", "steps", "step", "k"]) (sc := defScope s_shows_slow_ring) (by decide +kernel)) (fun _ _ _ _ _ => (pg_name (i := 4) sc_shows_slow_ring.nd rfl (.inl rfl))) (fun _ _ _ _ _ => (pts_one (PW.pt (pw_or (pt_not (pt_val (pe_c c_is_step hr (by decide) (by rfl) (pa_cons (pv 4) pa_nil)))) (pw_or1 (pt_cmpR (op_notInDK (K := K) rfl (hu65 hr)) (pv 4) (pv 3) (by rfl))))))) (fun _ _ _ _ _ => (pv 4))) (pe_lst pa_nil) (nomark _)) (pss_one (ps_ret pe_bl)) pss_nil)
      (pss_cons (ps_if (pt_cmpR (op_neD (hu64 hr)) (pe_lc (own := [("k", 5)]) (g := (gName 5)) rfl sc_shows_slow_ring.nd (pi_range1 (by rfl) T.m_range (pa_cons (pe_callB call_len_seq (by rfl) T.m_len PySem.boot_len (pa_cons (pv 2) pa_nil)) pa_nil)) (blkOk_by (own := [("k", 5)]) (N := ["flow", "times", "value", "steps", "step", "k"]) (sc := defScope s_shows_slow_ring) (by decide +kernel)) (fun _ _ _ _ _ => (pg_name (i := 5) sc_shows_slow_ring.nd rfl (.inl rfl))) (fun _ _ _ _ _ => (pts_one (pt_cmpR (op_neDK (K := K) rfl (hu64 hr)) (pe_ix (ix_seqK (K := K) rfl) (pe_ix (ix_seqK (K := K) rfl) (pv 2) (pe_op op_sub (pv 5) pe_int) (fun _ _ => rfl)) pe_int (fun _ _ => rfl)) (pe_ix (ix_seqK (K := K) rfl) (pe_ix (ix_seqK (K := K) rfl) (pv 2) (pv 5) (fun _ _ => rfl)) pe_int (fun _ _ => rfl)) (nomark _)))) (fun _ _ _ _ _ => (pv 5))) (pe_lst pa_nil) (nomark _)) (pss_one (ps_ret pe_bl)) pss_nil)
      (pss_one (ps_ret (pe_and (pe_cmpR op_gt (pe_callB (cr_sum rfl) (by rfl) T.m_sum (by decide +kernel) (pa_cons (pe_lc (own := [("step", 4)]) (g := (gName 4)) (tt := tYes) rfl sc_shows_slow_ring.nd (pi_tup (pv 2)) (blkOk_by (own := [("step", 4)]) (N := ["flow", "times", "value", "steps", "step", "k"]) (sc := defScope s_shows_slow_ring) (by decide +kernel)) (fun _ _ _ _ _ => (pg_name (i := 4) sc_shows_slow_ring.nd rfl (.inl rfl))) (fun _ _ _ _ _ => pts_nil) (fun _ _ _ _ _ => (pe_ix (ix_seqK (K := K) rfl) (pv 4) pe_int (fun _ _ => rfl)))) pa_nil)) pe_int (nomark _)) (pe_one (pe_cmpR (op_eqD (hu64 hr)) (pe_c c_mean_of hr (by decide) (by rfl) (pa_cons (pv 2) (pa_cons (pv 1) pa_nil))) (pe_ix ix_seq (pe_c c_slowest hr (by decide) (by rfl) (pa_cons (pv 3) (pa_cons (pv 1) pa_nil))) pe_int (fun _ _ => rfl)) (nomark _))))))))))), fun F0 x hx => ?_⟩
  obtain ⟨⟨f, c, ts⟩, R⟩ := x
  obtain ⟨G, sl⟩ : (Fine f c ∧ TimesOk f ts) ∧ SlowF f c ts R := hx
  have ne := sl.slow.2.1
  have len := sl.len
  obtain ⟨W, pos, W0, hp⟩ := Fine.place G.1
  have sin : ∀ s ∈ R, StepIn s ∧ s.a < ts.length := fun s hs => by
    obtain ⟨⟨a1, a2⟩, ⟨b1, b2, b3, b4⟩, _⟩ := hp s (sl.slow.2.2.1 s hs)
    have n := G.1.ok.n
    have r1 := rnd_bd G.1.toGood b1
    have r2 := rnd_bd G.1.toGood b3
    exact ⟨⟨by omega, by omega, by omega, by omega, by omega, by omega⟩, by rw [G.2.len]; exact b1⟩
  show Wp _ _ ([.im (flowD f), .im (marksD ts), .im (ringD R)] ++ List.replicate _ .un) _
  refine wp_seq (wp_drop (ev_callA (f, c, ts) (ea_cons (ev_var rfl) (ea_cons (ev_var rfl) ea_nil)) rfl G) fun _ _ => ?_)
  refine wp_seq (wp_noE (et_or (et_not (et_B (ev_isi (ev_var rfl) kit_tt))) fun _ => et_test (ev_eq (ev_op (ev_var rfl) (ev_tup ea_nil) (opd_eq (n := 3) (m := 1) (by simp [Pl]) rfl (by decide) (by decide))) (congrArg PyData.bool (eqv_nil R ne)))) rfl (wp_next ?_))
  refine wp_seq (wp_setP (ev_callA (f, c) (ea_cons (ev_var rfl) ea_nil) rfl (by exact ⟨G.1.toGood, G.1.ok.len, G.1.ok.n.2⟩)) fun d ⟨S, e, hS, lS⟩ => ?_)
  subst e
  have hS : ∀ s, s ∈ S ↔ InS f c s := hS
  have gph := G.1.gph G.2 hS lS
  refine wp_seq (wp_noE (et_test (ev_eq (ev_op (ev_lcTm (fun _ => false) stepD stepD_inj (ev_var rfl) (by omega) fun s hs => ⟨_, bn_name (by simp), et_eq (et_or (et_not (et_B (ev_callA s (ea_cons (ev_var rfl) ea_nil) rfl (sin s hs).1))) fun _ => et_test (ev_op (ev_var rfl) (ev_var rfl) (opd_notIn (pl_step s) (pl_steps S) (by decide) (by decide)))) (by rw [any_steps, decide_eq_true ((hS s).mpr (sl.slow.2.2.1 s hs))]; rfl), fun z => (nomatch z)⟩) (ev_lst ea_nil) (opd_ne (n := 3) (m := 1) (pl_steps _) rfl (by decide) (by decide))) (by rw [flt_false]; rfl))) rfl (wp_next ?_))
  refine wp_seq (wp_noE (et_test (ev_eq (ev_op (ev_lcRm (n := R.length) (fun _ => false) (fun k => .int (k : Nat)) (ea_cons (ev_cb (ea_cons (ev_var rfl) ea_nil) (by have := cd_lenT (K := K) (ds := R.map stepD); rw [List.length_map] at this; exact this)) ea_nil) (by omega) fun k hk => ?_) (ev_lst ea_nil) (opd_ne (n := 1) (m := 1) (pl_nats _) rfl (by decide) (by decide))) (by rw [flt_false]; rfl))) rfl (wp_next ?_))
  · obtain ⟨s, hs⟩ : ∃ s, R[k]? = some s := ⟨_, List.getElem?_eq_getElem hk⟩
    obtain ⟨u, hw⟩ := sl.slow.1
    obtain ⟨t, ht, et⟩ : ∃ t, atI (R.map stepD) ((k : Int) - 1) = some (stepD t) ∧ t.dst = s.src := by
      cases k with
      | zero =>
        obtain ⟨R0, t, e⟩ : ∃ R0 t, R = R0 ++ [t] := ⟨R.dropLast, R.getLast ne, (List.dropLast_concat_getLast ne).symm⟩
        refine ⟨t, ?_, ?_⟩
        · rw [e, List.map_append]
          exact atI_last _ _
        · rw [walk_first hw hs]
          rw [e] at hw
          exact walk_last hw
      | succ k =>
        obtain ⟨t, ht⟩ : ∃ t, R[k]? = some t := ⟨_, List.getElem?_eq_getElem (by omega)⟩
        refine ⟨t, ?_, walk_adj hw ht hs⟩
        rw [show ((k + 1 : Nat) : Int) - 1 = (k : Int) by omega]
        exact at_map ht
    refine ⟨_, bn_name (by simp), ?_, fun z => (nomatch z)⟩
    have e1 : ∀ {B : Bs} {Γ : List Sk}, Γ[2]? = some (.im (ringD R)) → Γ[5]? = some (.im (.int (k : Nat))) → Ev B (tOp (rIx K) (tOp (rIx K) (tVar 2) (tOp (rI0 fun i j => .int (i - j)) (tVar 5) (tC (.int 1)))) (tC (.int 1))) Γ (ndD t.dst) := fun {B Γ} a b => by
      have e0 : Ev B (tOp (rIx K) (tVar 2) (tOp (rI0 fun i j => .int (i - j)) (tVar 5) (tC (.int 1)))) Γ (stepD t) := ev_op (ev_var a) (ev_op (ev_var b) ev_int opd_sub) (opd_ixT ht)
      exact ev_op e0 ev_int (opd_ixT rfl)
    have e2 : ∀ {B : Bs} {Γ : List Sk}, Γ[2]? = some (.im (ringD R)) → Γ[5]? = some (.im (.int (k : Nat))) → Ev B (tOp (rIx K) (tOp (rIx K) (tVar 2) (tVar 5)) (tC (.int 0))) Γ (ndD s.src) := fun {B Γ} a b => by
      have e0 : Ev B (tOp (rIx K) (tVar 2) (tVar 5)) Γ (stepD s) := ev_ixTm (ev_var a) (ev_var b) hs
      exact ev_op e0 ev_int (opd_ixT rfl)
    refine et_eq (et_test (ev_op (e1 rfl rfl) (e2 rfl rfl) (opd_ne (n := 1) (m := 1) rfl rfl (by decide) (by decide)))) ?_
    rw [et, eqv_node]
    simp
  · obtain ⟨p1, p2⟩ := sl.pos
    have e1 : ∀ {B : Bs} {Γ : List Sk} {E : XK}, Γ[2]? = some (.im (ringD R)) → Γ[1]? = some (.im (marksD ts)) → Ev B (tCall spMean [] E (tCons (tVar 2) (tCons (tVar 1) tNil))) Γ (pI (rd (tsum ts R) (lsum R))) := fun a b => ev_callA ((R, ts) : List Step × List Nat) (ea_cons (ev_var a) (ea_cons (ev_var b) ea_nil)) rfl (by exact ⟨by dsimp only; omega, fun s hs => (sin s hs).2, p1, by dsimp only; omega⟩)
    have e2 : ∀ {B : Bs} {Γ : List Sk} {E : XK}, Γ[3]? = some (.im (.list (S.map stepD))) → Γ[1]? = some (.im (marksD ts)) → Ev B (tOp (rIx K) (tCall spSlow [] E (tCons (tVar 3) (tCons (tVar 1) tNil))) (tC (.int 0))) Γ (pI (rd (tsum ts R) (lsum R))) := fun a b => evp_op (ev_callA ((S, ts) : List Step × List Nat) (ea_cons (ev_var a) (ea_cons (ev_var b) ea_nil)) rfl gph) (fun _ _ => ev_int) fun da db ⟨R', e, sl', q1, q2, l2⟩ e2 => by
      subst e e2
      refine opd_mono (opd_ixT rfl) fun d e => ?_
      rw [e, sl.same ⟨Slow.congr hS sl', ⟨q1, q2⟩, l2⟩]
    refine wp_retD (ev_andV (ev_op (ev_cb (ea_cons (ev_lcTy (fun s => .int s.lag) stepD_inj (ev_var rfl) (by omega) fun s hs => ⟨_, bn_name (by simp), ev_op (ev_var rfl) ev_int (opd_ixT rfl)⟩) ea_nil) (cd_sumS (g := fun s => s.lag))) ev_int opd_gt) fun _ => ev_eq (ev_op (e1 rfl rfl) (e2 rfl rfl) (opd_eq (n := 1) (m := 1) rfl rfl (by decide) (by decide))) (congrArg PyData.bool (eqv_pI _ _))) ?_
    show PyData.bool _ = PyData.bool true
    congr 1
    rw [Bool.and_eq_true]
    exact ⟨decide_eq_true p1, decide_eq_true rfl⟩
end
end Dl
set_option Elab.async false
set_option linter.all false
set_option maxRecDepth 100000
set_option maxHeartbeats 1000000
/-! Walks 19: draws. -/
namespace Dl
open PySem PySem.Spec PyProof.Rows L2 C8 Rf
/-! ### expressions that change nothing, at one state -/
def EvQ (te : TE) (σ : L2.St) (H : Hp) (v : L2.V) : Prop := ∀ Q : VK, Q v H → te σ H Q
section
variable {K : PySem.W.Frag} {σ : L2.St} {H : Hp}
theorem eq_c {v : L2.V} : EvQ (tC v) σ H v := fun Q q => q
theorem eq_var {i : Nat} {v : L2.V} (h : σ[i]? = some (some v)) : EvQ (tVar i) σ H v := fun Q q => ⟨v, h, q⟩
theorem eq_op0 {g : Int → Int → L2.V} {ta tb : TE} {i j : Int} (ha : EvQ ta σ H (.int i)) (hb : EvQ tb σ H (.int j)) : EvQ (tOp (rI0 g) ta tb) σ H (g i j) := fun Q q => ha _ (hb _ ⟨i, j, rfl, rfl, q⟩)
theorem eq_opC {C : Int → Int → Prop} {g : Int → Int → L2.V} {ta tb : TE} {i j : Int} (ha : EvQ ta σ H (.int i)) (hb : EvQ tb σ H (.int j)) (c : C i j) : EvQ (tOp (rI C g) ta tb) σ H (g i j) := fun Q q => ha _ (hb _ ⟨i, j, rfl, rfl, c, q⟩)
theorem eq_ix {ta tb : TE} {S : Addr} {xs : List L2.V} {i : Int} {v : L2.V} (ha : EvQ ta σ H (.ref S)) (hb : EvQ tb σ H (.int i)) (h : SqL K H S xs) (e : atI xs i = some v) : EvQ (tOp (rIx K) ta tb) σ H v := fun Q q => ha _ (hb _ (.inl ⟨S, xs, i, v, rfl, rfl, h, e, q⟩))
theorem eq_int {ta : TE} {i : Int} (ha : EvQ ta σ H (.int i)) : EvQ (tCB (fun xs H Q => (∃ i, xs = [.int i] ∧ Q (.int i) H) ∨ ∃ k, xs = [.bl k] ∧ Q (.int (if k then 1 else 0)) H) (tCons ta tNil)) σ H (.int i) := fun Q q => ha _ (.inl ⟨i, rfl, q⟩)
theorem eq_len {ta : TE} {S : Addr} {xs : List L2.V} (ha : EvQ ta σ H (.ref S)) (h : SqL K H S xs) : EvQ (tCB (fun xs H Q => ∃ p ys, xs = [.ref p] ∧ (SqL K H p ys ∨ SqT K H p ys) ∧ Q (.int ys.length) H) (tCons ta tNil)) σ H (.int (xs.length : Nat)) := fun Q q => ha _ ⟨S, xs, rfl, .inl h, q⟩
theorem eq_store {te ti : TE} {a : Addr} {xs : List L2.V} {k : Nat} {v : L2.V} {D : L2.Ends} (hv : EvQ te σ H v) (h0 : σ[0]? = some (some (.ref a))) (hi : EvQ ti σ H (.int (k : Nat))) (ha : H a = some (.lst xs)) (hk : k < xs.length) (q : D.nx σ (upd H a (.lst (xs.set k v)))) : tAsg te (gSub (tVar 0) ti rSetL) D σ H :=
  hv _ ⟨.ref a, h0, hi _ ⟨a, xs, (k : Nat), k, rfl, rfl, ha, ixN_n hk, q⟩⟩
theorem eq_test {te : TE} {b : Bool} {v : L2.V} {Q : Bool → Hp → Prop} (h : EvQ te σ H v) (e : v = .bl b) (q : Q b H) : tTest te σ H Q := h _ ⟨b, e, q⟩
theorem eq_set {te : TE} {i : Nat} {v : L2.V} {D : L2.Ends} (h : EvQ te σ H v) (q : D.nx (σ.set i (some v)) H) : tAsg te (gName i) D σ H := h _ q
theorem eq_ret {te : TE} {v : L2.V} {D : L2.Ends} (h : EvQ te σ H v) (q : D.rt v H) : tRet te D σ H := h _ q
end
theorem fmod_lt {a m : Int} (h : 0 < m) : 0 ≤ a.fmod m ∧ a.fmod m < m := ⟨Int.fmod_nonneg_of_pos a h, Int.fmod_lt_of_pos a h⟩
abbrev rowL (S : Addr) (i j r : Int) : List L2.V := [.ref S, .int i, .int j, .int r]
section
variable {P : Program} {w : World} {K : PySem.W.Frag} {mg : PySem.Str → Option Value} {base : Heap}
theorem row_end {a S : Addr} {F H F0 H0 : Hp} {σ : L2.St} {Γ : List Sk} {ns : List Int} {i j r : Int} (o : Own ⟨P, w, K, [a], F0, H0⟩ F H σ Γ) (hf : F a = none) (sq : SqL K F S (ns.map L2.V.int)) (hi : 0 ≤ i) (hj : 0 ≤ j ∧ j < 2147483647) (hr : 0 ≤ r) :
    Gr [a] F0 H0 F (upd H a (.lst (rowL S i j r))) ∧ ∀ b ∈ [a], RowOk K F (upd H a (.lst (rowL S i j r))) b := by
  have g := o.gr
  refine ⟨⟨g.ff, fun b x hb => ?_, fun b x hb h => ?_, g.nf, fun b h => ?_⟩, fun b hb => ?_⟩
  · rw [upd_ne (fun z => by rw [z, hf] at hb; cases hb)]
    exact g.fh b x hb
  · rw [upd_ne (fun z => hb (by rw [z]; simp))]
    exact g.hh b x hb h
  · by_cases z : b = a
    · rw [z, upd_same]
      exact fun y => nomatch y
    · rw [upd_ne z]
      exact g.tt b h
  · have : b = a := by simpa using hb
    rw [this]
    exact ⟨hf, S, ns, i, j, r, upd_same, sq, hi, hj.1, hj.2, hr⟩
def TakePost (m : Nat) (r : PyData) : Prop := ∃ x : Nat, x < m ∧ r = .int (x : Nat)
abbrev spTake (K : PySem.W.Frag) : Sp := spD K (fun m : Nat => [.int (m : Nat)]) (fun m => 1 ≤ m ∧ m ≤ 1000000) TakePost
theorem sc__law_taken : FnScope ["_law_row", "_law_many", "_law_found", "_law_cell"] ["_law_row", "_law_many"] (defScope s_law_taken) := ⟨rfl, rfl, rfl, by decide +kernel, rfl, by decide +kernel, by decide +kernel⟩
theorem ok__law_taken (T : Tx mg) (F : Df K mg "_law_taken" s_law_taken) : Cal P w K mg base 1 "_law_taken" (spTake K) [] := by
  refine calD _ _ _ F sc__law_taken rfl (by decide) (fun _ => rfl) (fun _ _ _ _ _ _ us hl => match us, hl with | [_, _], _ => rfl) fun f cdv A outer s H E hr => ⟨_,
    (pss_cons (ps_if (pt_cmpR op_gt (pe_ix ix_seq (pv 0) pe_int (fun _ _ => rfl)) pe_int (nomark _)) (pss_cons (ps_set (i := 2) sc__law_taken.nd rfl (.inl rfl) (pe_op op_modN (pe_callTy call_int1 (by rfl) T.m_int (by decide +kernel) (pa_cons (pe_ix ix_seq (pv 0) pe_int (fun _ _ => rfl)) pa_nil)) (pv 1)))
      (pss_cons (ps_asg (pe_op op_fdivN (pe_ix ix_seq (pv 0) pe_int (fun _ _ => rfl)) (pv 1)) (pg_sub (pv 0) pe_int (set_list)))
      (pss_one (ps_ret (pv 2))))) pss_nil)
      (pss_cons (ps_asg (pe_op op_add (pe_ix ix_seq (pv 0) pe_int (fun _ _ => rfl)) pe_int) (pg_sub (pv 0) pe_int (set_list)))
      (pss_cons (ps_if (pt_cmpR op_gt (pe_ix ix_seq (pv 0) pe_int (fun _ _ => rfl)) (pe_callB call_len_seq (by rfl) T.m_len PySem.boot_len (pa_cons (pe_ix ix_seq (pv 0) pe_int (fun _ _ => rfl)) pa_nil)) (nomark _)) (pss_cons (ps_asg (pe_op op_modN (pe_callTy call_int1 (by rfl) T.m_int (by decide +kernel) (pa_cons (pe_op op_add (pe_op op_mul (pe_ix ix_seq (pv 0) pe_int (fun _ _ => rfl)) pe_int) pe_int) pa_nil)) pe_int) (pg_sub (pv 0) pe_int (set_list)))
      (pss_one (ps_ret (pe_op op_modN (pe_callTy call_int1 (by rfl) T.m_int (by decide +kernel) (pa_cons (pe_op op_fdivN (pe_ix ix_seq (pv 0) pe_int (fun _ _ => rfl)) pe_int) pa_nil)) (pv 1))))) pss_nil)
      (pss_cons (ps_set (i := 3) sc__law_taken.nd rfl (.inl rfl) (pe_ix ix_seq (pe_ix ix_seq (pv 0) pe_int (fun _ _ => rfl)) (pe_op op_sub (pe_ix ix_seq (pv 0) pe_int (fun _ _ => rfl)) pe_int) (fun _ _ => rfl)))
      (pss_cons (ps_asg (pe_op op_modN (pe_callTy call_int1 (by rfl) T.m_int (by decide +kernel) (pa_cons (pe_op op_add (pe_op op_add (pe_op op_mul (pe_ix ix_seq (pv 0) pe_int (fun _ _ => rfl)) pe_int) (pv 3)) pe_int) pa_nil)) pe_int) (pg_sub (pv 0) pe_int (set_list)))
      (pss_cons (ps_if (pt_cmpR op_ge (pv 3) (pe_op op_pow pe_int pe_int) (nomark _)) (pss_one (ps_asg (pe_op op_fdivN (pv 3) (pv 1)) (pg_sub (pv 0) pe_int (set_list)))) pss_nil)
      (pss_one (ps_ret (pe_op op_modN (pe_callTy call_int1 (by rfl) T.m_int (by decide +kernel) (pa_cons (pv 3) pa_nil)) (pv 1)))))))))), fun F0 a x hx => ?_⟩
  obtain ⟨hm1, hm2⟩ := hx
  show Wp _ _ ([.row, .im (.int (x : Nat)), .un, .un]) _
  intro F H1 σ D o e
  obtain ⟨hf, S, ns, i, j, r, hrow, sq, hi, hj1, hj2, hr0⟩ := o.rows a (by simp)
  obtain ⟨a', e0, ha'⟩ := o.at_ 0 _ rfl
  have : a' = a := by simpa using ha'
  subst this
  obtain ⟨v1, e1, hv1⟩ := o.at_ 1 _ rfl
  obtain rfl := hv1.int_inv
  have s0 := slot_eq e0
  have s1 := slot_eq e1
  have len := o.len
  obtain ⟨p2, p3, rfl⟩ : ∃ p2 p3, σ = [some (.ref a'), some (.int (x : Nat)), p2, p3] := by
    match σ, len, s0, s1 with
    | [q0, q1, q2, q3], _, s0, s1 => exact ⟨q2, q3, by simp at s0 s1; rw [s0, s1]⟩
  have sqH : ∀ u, SqL K (upd H1 a' u) S (ns.map L2.V.int) := fun u => by
    refine Same.seq (fun b y hb => ?_) sq
    rw [upd_ne (fun z => by rw [z, hf] at hb; cases hb)]
    exact o.fh b y hb
  have fin : ∀ {i j r : Int} {t : Int}, 0 ≤ i → 0 ≤ j ∧ j < 2147483647 → 0 ≤ r → 0 ≤ t → t < (x : Int) → D.rt (.int t) (upd H1 a' (.lst (rowL S i j r))) := fun {i j r t} h1 h2 h3 h4 h5 => by
    obtain ⟨g, rw1⟩ := row_end o hf sq h1 h2 h3
    refine e.rt (.int t) _ F _ (Same.refl F) ⟨t.toNat, by omega, ?_⟩ g rw1 (.int t)
    rw [Int.toNat_of_nonneg h4]
  have hx0 : (0 : Int) < (x : Nat) := by omega
  have cd : ∀ {y : Int}, CDivN y (x : Nat) := ⟨by omega, by omega⟩
  have fd : ∀ {y m : Int}, 0 ≤ y → 0 < m → 0 ≤ y.fdiv m := fun h1 h2 => by rw [fdiv_pos_eq h2]; exact Int.ediv_nonneg h1 (by omega)
  have row : ∀ {σ : L2.St} {H : Hp} {xs : List L2.V} {k : Int} {v : L2.V}, σ[0]? = some (some (.ref a')) → H a' = some (.lst xs) → atI xs k = some v → EvQ (tOp (rIx K) (tVar 0) (tC (.int k))) σ H v := fun h1 h2 h3 => eq_ix (eq_var h1) eq_c (SqL.of h2) h3
  refine eq_test (eq_op0 (row rfl hrow rfl) eq_c) rfl ?_
  by_cases hr1 : 0 < r
  · rw [if_pos (decide_eq_true hr1)]
    refine eq_set (eq_opC (eq_int (row rfl hrow rfl)) (eq_var rfl) (by omega)) ?_
    refine eq_store (k := 3) (eq_opC (row rfl hrow rfl) (eq_var rfl) cd) rfl eq_c hrow (by show 3 < 4; decide) ?_
    refine eq_ret (eq_var rfl) ?_
    exact fin hi ⟨hj1, hj2⟩ (fd hr0 hx0) (fmod_lt hx0).1 (fmod_lt hx0).2
  · rw [if_neg (by rw [decide_eq_false hr1]; decide)]
    refine eq_store (k := 1) (eq_op0 (row rfl hrow rfl) eq_c) rfl eq_c hrow (by show 1 < 4; decide) ?_
    have h1 : upd H1 a' (.lst ((rowL S i j r).set 1 (.int (i + 1)))) a' = some (.lst (rowL S (i + 1) j r)) := upd_same
    refine eq_test (eq_op0 (row rfl h1 rfl) (eq_len (eq_ix (eq_var rfl) eq_c (SqL.of h1) rfl) (sqH _))) rfl ?_
    rw [List.length_map]
    by_cases hc : ((ns.length : Nat) : Int) < i + 1
    · rw [if_pos (decide_eq_true hc)]
      refine eq_store (k := 2) (eq_opC (eq_int (eq_op0 (eq_opC (row rfl h1 rfl) eq_c (by exact .inr ⟨by decide, by decide⟩)) eq_c)) eq_c (by show (2147483647 : Int) ≠ 0; decide)) rfl eq_c h1 (by show 2 < 4; decide) ?_
      have h2 : upd (upd H1 a' (.lst ((rowL S i j r).set 1 (.int (i + 1))))) a' (.lst ((rowL S (i + 1) j r).set 2 (.int ((j * 48271 + 11).fmod 2147483647)))) a' = some (.lst (rowL S (i + 1) ((j * 48271 + 11).fmod 2147483647) r)) := upd_same
      dsimp only
      refine eq_ret (eq_opC (eq_int (eq_opC (row rfl h2 rfl) eq_c (by exact ⟨by decide, by decide⟩))) (eq_var rfl) (by omega)) ?_
      rw [upd_upd]
      exact fin (by omega) (fmod_lt (by decide)) hr0 (fmod_lt hx0).1 (fmod_lt hx0).2
    · rw [if_neg (by rw [decide_eq_false hc]; decide)]
      obtain ⟨cell, hcell⟩ : ∃ cell, ns[i.toNat]? = some cell := ⟨_, List.getElem?_eq_getElem (by omega)⟩
      have at1 : atI (ns.map L2.V.int) (i + 1 - 1) = some (.int cell) := by
        rw [show i + 1 - 1 = ((i.toNat : Nat) : Int) by omega]
        exact atI_nat (by rw [List.getElem?_map, hcell]; rfl)
      refine eq_set (eq_ix (eq_ix (eq_var rfl) eq_c (SqL.of h1) rfl) (eq_op0 (row rfl h1 rfl) eq_c) (sqH _) at1) ?_
      dsimp only
      refine eq_store (k := 2) (eq_opC (eq_int (eq_op0 (eq_op0 (eq_opC (row rfl h1 rfl) eq_c (by exact .inr ⟨by decide, by decide⟩)) (eq_var rfl)) eq_c)) eq_c (by show (2147483647 : Int) ≠ 0; decide)) rfl eq_c h1 (by show 2 < 4; decide) ?_
      rw [upd_upd]
      have j2 : 0 ≤ (j * 48271 + cell + 11).fmod 2147483647 ∧ (j * 48271 + cell + 11).fmod 2147483647 < 2147483647 := fmod_lt (by decide)
      have h2 : upd H1 a' (.lst ((rowL S (i + 1) j r).set 2 (.int ((j * 48271 + cell + 11).fmod 2147483647)))) a' = some (.lst (rowL S (i + 1) ((j * 48271 + cell + 11).fmod 2147483647) r)) := upd_same
      generalize (j * 48271 + cell + 11).fmod 2147483647 = j' at j2 h2
      refine eq_test (eq_op0 (eq_var rfl) (eq_opC eq_c eq_c (by exact ⟨by decide, by decide, by decide⟩))) rfl ?_
      split
      · rename_i hbig
        have hbig : (10 : Int) ^ (18 : Int).toNat ≤ cell := of_decide_eq_true hbig
        have hc0 : (0 : Int) ≤ cell := Int.le_trans (by decide) hbig
        refine eq_store (k := 3) (eq_opC (eq_var rfl) (eq_var rfl) cd) rfl eq_c h2 (by show 3 < 4; decide) ?_
        refine eq_ret (eq_opC (eq_int (eq_var rfl)) (eq_var rfl) (by omega)) ?_
        rw [upd_upd]
        exact fin (by omega) j2 (fd hc0 hx0) (fmod_lt hx0).1 (fmod_lt hx0).2
      · refine eq_ret (eq_opC (eq_int (eq_var rfl)) (eq_var rfl) (by omega)) ?_
        exact fin (by omega) j2 hr0 (fmod_lt hx0).1 (fmod_lt hx0).2
end
end Dl
set_option Elab.async false
set_option linter.all false
set_option maxRecDepth 100000
set_option maxHeartbeats 1000000
/-! Walks 20: the drawn flow. -/
namespace Dl
open PySem PySem.Spec PyProof.Rows L2 C8 Rf
abbrev prD (x : Nat × Nat) : PyData := .tuple [.int (x.1 : Nat), .int (x.2 : Nat)]
structure Drawn (f : Flow) (c : Nat → Nat) : Prop extends Good f c where
  n13 : 1 ≤ f.n ∧ f.n ≤ 3
  len : f.ps.length ≤ 4
theorem lcr_nats {Q : Nat → Prop} : ∀ {ds es : List PyData}, LcR (fun _ b => b = true) (fun _ e => ∃ n : Nat, Q n ∧ e = .int (n : Nat)) ds es → ∃ cs : List Nat, es = natsD cs ∧ cs.length = ds.length ∧ ∀ x ∈ cs, Q x
  | _, _, .nil => ⟨[], rfl, rfl, fun x hx => nomatch hx⟩
  | _, _, .yes a ⟨n, hq, e⟩ t => by
    obtain ⟨cs, h1, h2, h3⟩ := lcr_nats t
    refine ⟨n :: cs, by rw [e, h1]; rfl, by rw [List.length_cons, List.length_cons, h2], fun x hx => ?_⟩
    rcases List.mem_cons.mp hx with z | z
    · rw [z]; exact hq
    · exact h3 x z
  | _, _, .no a t => by cases a
theorem mul_gcd {a b m : Nat} (ha : 1 ≤ a) (hb : 1 ≤ b) : a * (m * b / Nat.gcd a b) = b * (m * a / Nat.gcd a b) := by
  have g0 : 0 < Nat.gcd a b := Nat.gcd_pos_of_pos_left _ ha
  have h1 := Nat.gcd_dvd_left a b
  have h2 := Nat.gcd_dvd_right a b
  rw [Nat.mul_div_assoc _ h2, Nat.mul_div_assoc _ h1]
  obtain ⟨x, hx⟩ := h1
  obtain ⟨y, hy⟩ := h2
  generalize hg : Nat.gcd a b = g at *
  have ex : a / g = x := by rw [hx, Nat.mul_div_cancel_left x g0]
  have ey : b / g = y := by rw [hy, Nat.mul_div_cancel_left y g0]
  rw [ex, ey, hx, hy]
  simp [Nat.mul_assoc, Nat.mul_comm, Nat.mul_left_comm]
section
variable {P : Program} {w : World} {K : PySem.W.Frag} {mg : PySem.Str → Option Value} {base : Heap}
abbrev spPick (K : PySem.W.Frag) : Sp := spD K (fun l : List Nat => [.list (natsD l)]) (fun l => 1 ≤ l.length ∧ l.length ≤ 1000) (fun l r => ∃ x ∈ l, r = .int (x : Nat))
theorem sc__law_pick : FnScope ["_law_row", "_law_things"] ["_law_row", "_law_things"] (defScope s_law_pick) := ⟨rfl, rfl, rfl, by decide +kernel, rfl, by decide +kernel, by decide +kernel⟩
theorem ok__law_pick (T : Tx mg) (F : Df K mg "_law_pick" s_law_pick) (c__law_taken : Cal P w K mg base 1 "_law_taken" (spTake K) []) : Cal P w K mg base 2 "_law_pick" (spPick K) [] := by
  refine calD _ _ _ F sc__law_pick rfl (by decide) (fun _ => rfl) (fun _ _ _ _ _ _ us hl => match us, hl with | [_, _], _ => rfl) fun f cdv A outer s H E hr => ⟨_,
    (pss_one (ps_ret (pe_ix ix_seq (pv 1) (pe_c c__law_taken hr (by decide) (by rfl) (pa_cons (pv 0) (pa_cons (pe_callB call_len_seq (by rfl) T.m_len PySem.boot_len (pa_cons (pv 1) pa_nil)) pa_nil))) (fun _ _ => rfl)))), fun F0 a x hx => ?_⟩
  obtain ⟨h1, h2⟩ := hx
  refine wp_ret (evp_op (ev_var rfl) (fun _ _ => ev_callD (x.length) rfl (ea_cons (ev_cb (ea_cons (ev_var rfl) ea_nil) cd_lenL) ea_nil) (by rw [List.length_map]) (by exact ⟨by omega, by omega⟩)) (P := fun r => ∃ y ∈ x, r = .int (y : Nat)) fun da db e ⟨i, hi, e2⟩ => ?_) fun d h => h
  subst e e2
  have hg : x[i]? = some x[i] := List.getElem?_eq_getElem hi
  exact opd_mono (opd_ixL (at_map hg)) fun d e => ⟨x[i], List.getElem_mem hi, e⟩
section
variable {B : Bs} {Γ : List Sk}
/-- 1 + taken(row, m) -/
theorem ev_1take {t : TA} {E : XK} {m : Nat} (h0 : Γ[0]? = some .row) (h : Ea B t Γ [.int (m : Nat)]) (hm : 1 ≤ m ∧ m ≤ 1000000) : EvP B (tOp (rI0 fun i j => .int (i + j)) (tC (.int 1)) (tCall (spTake B.K) [] E (tCons (tVar 0) t))) Γ (fun d => ∃ n : Nat, (1 ≤ n ∧ n ≤ m) ∧ d = .int (n : Nat)) :=
  evp_op ev_int (fun _ _ => ev_callD m h0 h rfl hm) fun da db e ⟨x, hx, e2⟩ => by
    subst e e2
    exact opd_mono opd_add fun d e => ⟨1 + x, ⟨by omega, by omega⟩, by rw [e]; rfl⟩
theorem ev_take {t : TA} {E : XK} {m : Nat} (h0 : Γ[0]? = some .row) (h : Ea B t Γ [.int (m : Nat)]) (hm : 1 ≤ m ∧ m ≤ 1000000) : EvP B (tCall (spTake B.K) [] E (tCons (tVar 0) t)) Γ (TakePost m) := ev_callD m h0 h rfl hm
/-- 1 + taken(row, pick(row, l)) -/
theorem ev_1tp {t : TA} {E E' : XK} {l : List Nat} {M : Nat} (h0 : Γ[0]? = some .row) (h : Ea B t Γ [.list (natsD l)]) (hl : 1 ≤ l.length ∧ l.length ≤ 1000) (hM : ∀ x ∈ l, 1 ≤ x ∧ x ≤ M) (hM2 : M ≤ 1000000) :
    EvP B (tOp (rI0 fun i j => .int (i + j)) (tC (.int 1)) (tCall (spTake B.K) [] E (tCons (tVar 0) (tCons (tCall (spPick B.K) [] E' (tCons (tVar 0) t)) tNil)))) Γ (fun d => ∃ n : Nat, (1 ≤ n ∧ n ≤ M) ∧ d = .int (n : Nat)) :=
  evp_op ev_int (fun _ _ => evp_callD (Pd := TakePost M) h0 (Ps := fun ds => ∃ x ∈ l, ds = [.int (x : Nat)]) (eap_cons (ev_callD l h0 h rfl hl) (fun _ _ => ea_nil) fun d ds ⟨x, hx, e⟩ e2 => ⟨x, hx, by rw [e, e2]⟩) fun ds ⟨x, hx, e⟩ => ⟨x, e, by have := hM x hx; omega, fun d ⟨y, hy, e⟩ => ⟨y, by have := hM x hx; omega, e⟩⟩) fun da db e ⟨x, hx, e2⟩ => by
    subst e e2
    exact opd_mono opd_add fun d e => ⟨1 + x, ⟨by omega, by omega⟩, by rw [e]; rfl⟩
end
theorem sc__law_flow : FnScope ["_law_row", "_law_most", "_law_top", "_law_many", "_law_way", "_law_pipes", "_law_k", "_law_counts", "_law_pair", "_law_turn", "_law_found", "_law_one", "_law_other", "_law_common", "_law_more"] ["_law_row", "_law_most", "_law_top"] (defScope s_law_flow) := ⟨rfl, rfl, rfl, by decide +kernel, rfl, by decide +kernel, by decide +kernel⟩
abbrev spFlow (K : PySem.W.Frag) : Sp := spD K (fun x : Nat × Nat => [.int (x.1 : Nat), .int (x.2 : Nat)]) (fun x => x = (3, 5)) (fun _ r => ∃ f c, r = flowD f ∧ Drawn f c ∧ ∀ p ∈ f.ps, p.start ≤ 5)
theorem ok__law_flow (T : Tx mg) (F : Df K mg "_law_flow" s_law_flow) (c__law_gcd : Cal P w K mg base 1 "_law_gcd" spGcd []) (c__law_pick : Cal P w K mg base 2 "_law_pick" (spPick K) []) (c__law_taken : Cal P w K mg base 1 "_law_taken" (spTake K) []) : Cal P w K mg base 3 "_law_flow" (spFlow K) [] := by
  refine calD _ _ _ F sc__law_flow rfl (by decide) (fun _ => rfl) (fun _ _ _ _ _ _ us hl => match us, hl with | [_, _, _], _ => rfl) fun f cdv A outer s H E hr => ⟨_,
    (pss_cons (ps_par3 (i := 3) (j := 4) (l := 5) (by rfl) sc__law_flow.nd rfl rfl rfl (by decide) (by decide) (by decide) rfl rfl rfl (pa_cons (pe_op op_add pe_int (pe_c c__law_taken hr (by decide) (by rfl) (pa_cons (pv 0) (pa_cons (pv 1) pa_nil)))) (pa_cons (pe_c c__law_taken hr (by decide) (by rfl) (pa_cons (pv 0) (pa_cons pe_int pa_nil))) (pa_cons (pe_lst pa_nil) pa_nil))) (by rfl))
      (pss_cons (ps_setLc (i := 7) (own := [("_law_k", 6)]) (g := (gName 6)) (tt := tYes) rfl sc__law_flow.nd rfl rfl (sw_true rfl rfl rfl (by decide +kernel)) (pi_range1 (by rfl) T.m_range (pa_cons (pv 3) pa_nil)) (blkOk_by (own := [("_law_k", 6)]) (N := ["_law_row", "_law_most", "_law_top", "_law_many", "_law_way", "_law_pipes", "_law_k", "_law_counts", "_law_pair", "_law_turn", "_law_found", "_law_one", "_law_other", "_law_common", "_law_more"]) (sc := defScope s_law_flow) (by decide +kernel)) (fun _ _ _ _ _ => (pg_name (i := 6) sc__law_flow.nd rfl (.inl rfl))) (fun _ _ _ _ _ => pts_nil) (fun _ _ _ _ _ => (pe_op op_add pe_int (pe_c c__law_taken hr (by decide) (by rfl) (pa_cons (pv 0) (pa_cons (pe_c c__law_pick hr (by decide) (by rfl) (pa_cons (pv 0) (pa_cons (pe_lst (pa_cons pe_int (pa_cons pe_int (pa_cons pe_int pa_nil)))) pa_nil))) pa_nil))))))
      (pss_cons (ps_for PassesOwn.never rfl (pi_range2 (by rfl) T.m_range (pa_cons pe_int (pa_cons (pv 3) pa_nil))) (pg_name (i := 6) sc__law_flow.nd rfl (.inl rfl)) (pss_one (ps_if (pt_cmpR op_gt (pe_c c__law_taken hr (by decide) (by rfl) (pa_cons (pv 0) (pa_cons pe_int pa_nil))) pe_int (nomark _)) (pss_cons (ps_set (i := 8) sc__law_flow.nd rfl (.inl rfl) (pe_tup (pa_cons (pe_ifExp (pt_cmpR (op_eqD (hu64 hr)) (pv 4) pe_int (nomark _)) (pe_op op_sub (pv 6) pe_int) (pe_c c__law_taken hr (by decide) (by rfl) (pa_cons (pv 0) (pa_cons (pv 6) pa_nil)))) (pa_cons (pv 6) pa_nil))))
      (pss_one (ps_expr (pe_bm PySem.F.plainAttrs_list PySem.F.slot_list_append PySem.F.type_list_append mt_append (pv 5) (pa_cons (pe_ifExp (pt_cmpR op_gt (pe_c c__law_taken hr (by decide) (by rfl) (pa_cons (pv 0) (pa_cons pe_int pa_nil))) pe_int (nomark _)) (pv 8) (pe_tup (pa_cons (pe_ix ix_seq (pv 8) pe_int (fun _ _ => rfl)) (pa_cons (pe_ix ix_seq (pv 8) pe_int (fun _ _ => rfl)) pa_nil)))) pa_nil))))) pss_nil)))
      (pss_cons (ps_for PassesOwn.never rfl (pi_range1 (by rfl) T.m_range (pa_cons (pe_ifExp (pt_cmpR op_gt (pv 4) pe_int (nomark _)) (pe_c c__law_taken hr (by decide) (by rfl) (pa_cons (pv 0) (pa_cons pe_int pa_nil))) pe_int) pa_nil)) (pg_name (i := 9) sc__law_flow.nd rfl (.inl rfl)) (pss_one (ps_expr (pe_bm PySem.F.plainAttrs_list PySem.F.slot_list_append PySem.F.type_list_append mt_append (pv 5) (pa_cons (pe_tup (pa_cons (pe_c c__law_taken hr (by decide) (by rfl) (pa_cons (pv 0) (pa_cons (pv 3) pa_nil))) (pa_cons (pe_c c__law_taken hr (by decide) (by rfl) (pa_cons (pv 0) (pa_cons (pv 3) pa_nil))) pa_nil))) pa_nil)))))
      (pss_cons (ps_set (i := 10) sc__law_flow.nd rfl (.inl rfl) (pe_lst pa_nil))
      (pss_cons (ps_for PassesOwn.never rfl (pi_list (pv 5)) (pg_tup rfl (pgs_cons (pg_name (i := 11) sc__law_flow.nd rfl (.inl rfl)) (pgs_cons (pg_name (i := 12) sc__law_flow.nd rfl (.inl rfl)) pgs_nil))) (pss_cons (ps_set (i := 13) sc__law_flow.nd rfl (.inl rfl) (pe_c c__law_gcd hr (by decide) (by rfl) (pa_cons (pe_ix ix_seq (pv 7) (pv 11) (fun _ _ => rfl)) (pa_cons (pe_ix ix_seq (pv 7) (pv 12) (fun _ _ => rfl)) pa_nil))))
      (pss_cons (ps_set (i := 14) sc__law_flow.nd rfl (.inl rfl) (pe_c c__law_pick hr (by decide) (by rfl) (pa_cons (pv 0) (pa_cons (pe_lst (pa_cons pe_int (pa_cons pe_int (pa_cons pe_int pa_nil)))) pa_nil))))
      (pss_one (ps_expr (pe_bm PySem.F.plainAttrs_list PySem.F.slot_list_append PySem.F.type_list_append mt_append (pv 10) (pa_cons (pe_tup (pa_cons (pv 11) (pa_cons (pv 12) (pa_cons (pe_op op_fdivN (pe_op op_mul (pv 14) (pe_ix ix_seq (pv 7) (pv 12) (fun _ _ => rfl))) (pv 13)) (pa_cons (pe_op op_fdivN (pe_op op_mul (pv 14) (pe_ix ix_seq (pv 7) (pv 11) (fun _ _ => rfl))) (pv 13)) (pa_cons (pe_c c__law_taken hr (by decide) (by rfl) (pa_cons (pv 0) (pa_cons (pe_op op_add (pv 2) pe_int) pa_nil))) pa_nil)))))) pa_nil)))))))
      (pss_one (ps_ret (pe_tup (pa_cons (pv 3) (pa_cons (pe_callTy call_tuple_of (by rfl) T.m_tuple (by decide +kernel) (pa_cons (pv 10) pa_nil)) pa_nil))))))))))), fun F0 a x hx => ?_⟩
  subst hx
  show Wp _ _ ([.row, .im (.int (3 : Nat)), .im (.int (5 : Nat))] ++ List.replicate _ .un) _
  refine wp_seq (wp_par3 (Ps := fun ss => ∃ n wy : Nat, (1 ≤ n ∧ n ≤ 3) ∧ ss = [.im (.int (n : Nat)), .im (.int (wy : Nat)), .ml []]) (esp_cons (evs_im (ev_1take (m := 3) rfl (ea_cons (ev_var rfl) ea_nil) (by decide))) (fun _ _ => esp_cons (evs_im (ev_take (m := 5) rfl (ea_cons ev_int ea_nil) (by decide))) (fun _ _ => esp_cons evs_nil (fun _ _ => esp_nil) (P := fun ss => ss = [.ml []]) fun _ _ e1 e2 => by rw [e1, e2])
    (P := fun ss => ∃ wy : Nat, ss = [.im (.int (wy : Nat)), .ml []]) fun s ss ⟨d, e1, x, _, e2⟩ e3 => ⟨x, by rw [e1, e2, e3]⟩) fun s ss ⟨d, e1, n, hn, e2⟩ ⟨wy, e3⟩ => ⟨n, wy, hn, by rw [e1, e2, e3]⟩) fun ss ⟨n, wy, hn, e⟩ => ⟨_, _, _, e, ?_⟩)
  refine wp_seq (wp_setP (evp_lcR1 (n := (n : Nat)) (Pb := fun _ b => b = true) (Pe := fun _ e => ∃ x : Nat, (1 ≤ x ∧ x ≤ 4) ∧ e = .int (x : Nat)) (ea_cons (ev_var rfl) ea_nil) (by omega) fun i hi => ⟨_, bn_name (by simp), etp_yes, fun _ => ev_1tp (l := [1, 3, 4]) (M := 4) rfl (ea_cons (ev_lst (ea_cons ev_int (ea_cons ev_int (ea_cons ev_int ea_nil)))) ea_nil) (by decide) (by decide) (by decide)⟩) fun d ⟨es, e, lr⟩ => ?_)
  obtain ⟨cs, e1, cl, hc⟩ := lcr_nats lr
  subst e e1
  rw [rngD_len, Int.toNat_natCast] at cl
  clear lr
  refine wp_seq (wp_forR2 (lo := 1) (n := (n : Nat)) (fun i Γ => ∃ L s6 s8, Γ = [.row, .im (.int (3 : Nat)), .im (.int (5 : Nat)), .im (.int (n : Nat)), .im (.int (wy : Nat)), .ml (L.map prD), s6, .im (.list (natsD cs)), s8, .un, .un, .un, .un, .un, .un] ∧ (∀ x ∈ L, x.1 < n ∧ x.2 < n) ∧ L.length ≤ i) (ea_cons ev_int (ea_cons (ev_var rfl) ea_nil)) (by omega) ⟨[], _, _, rfl, fun x hx => (nomatch hx), Nat.le_refl _⟩ (fun i Γ' hi ⟨L, s6, s8, e, hL, ll⟩ => ?_) (fun Γ' ⟨L, s6, s8, e, hL, ll⟩ => ?_))
  · subst e
    have hi : i + 1 < n := by omega
    refine tg_name ?_
    rw [show (1 : Int) + (i : Nat) = ((i + 1 : Nat) : Int) by omega]
    refine wp_if (Pb := fun _ => True) (etp_test (evp_op (ev_take (m := 8) rfl (ea_cons ev_int ea_nil) (by decide)) (fun _ _ => ev_int) (P := fun d => ∃ b, d = .bool b ∧ True) fun da db ⟨x, _, e⟩ e2 => by subst e e2; exact opd_mono opd_gt fun d e => ⟨_, e, trivial⟩) fun d h => h) (fun _ => ?_) (fun _ => wp_next ⟨L, _, _, rfl, hL, by omega⟩)
    refine wp_seq (wp_setP (Pe := fun d => ∃ x : Nat, x < n ∧ d = prD (x, i + 1)) (evp_tup (Ps := fun ds => ∃ x : Nat, x < n ∧ ds = [.int (x : Nat), .int ((i + 1 : Nat) : Nat)]) (eap_cons (Pa := fun d => ∃ x : Nat, x < n ∧ d = .int (x : Nat)) (evp_if (et_eqI (ev_var rfl) ev_int) (fun _ => evp_mono (ev_op (ev_var rfl) ev_int opd_sub) fun d e => ⟨i, by omega, by rw [e, show ((i + 1 : Nat) : Int) - 1 = (i : Int) by omega]⟩) (fun _ => evp_mono (ev_take (m := i + 1) rfl (ea_cons (ev_var rfl) ea_nil) (by omega)) fun d ⟨x, hx, e⟩ => ⟨x, by omega, e⟩)) (fun _ _ => ea_cons (ev_var rfl) ea_nil) fun d ds ⟨x, hx, e⟩ e2 => ⟨x, hx, by rw [e, e2]⟩) fun ds ⟨x, hx, e⟩ => by rw [e]; exact ⟨Nat.le_of_ble_eq_true rfl, x, hx, rfl⟩) fun d ⟨x, hx, e⟩ => ?_)
    subst e
    refine wp_append rfl (Pe := fun d => ∃ y : Nat × Nat, (y.1 < n ∧ y.2 < n) ∧ d = prD y) (evp_if (Pt := fun _ => True) (etp_test (evp_op (ev_take (m := 3) rfl (ea_cons ev_int ea_nil) (by decide)) (fun _ _ => ev_int) (P := fun d => ∃ b, d = .bool b ∧ True) fun da db ⟨x, _, e⟩ e2 => by subst e e2; exact opd_mono opd_gt fun d e => ⟨_, e, trivial⟩) fun d h => h) (fun _ => evp_mono (ev_var rfl) fun d e => ⟨(x, i + 1), ⟨hx, hi⟩, e⟩) (fun _ => evp_mono (ev_tup (ea_cons (ev_op (ev_var rfl) ev_int (opd_ixT rfl)) (ea_cons (ev_op (ev_var rfl) ev_int (opd_ixT rfl)) ea_nil))) fun d e => ⟨(i + 1, x), ⟨hi, hx⟩, e⟩)) (by rw [List.length_map]; omega) fun d ⟨y, hy, e⟩ => ?_
    subst e
    refine ⟨L ++ [y], _, _, set_ml (b := (L ++ [y]).map prD) (by rw [List.map_append]; rfl) rfl, fun z hz => ?_, by rw [List.length_append, List.length_singleton]; omega⟩
    rcases List.mem_append.mp hz with q | q
    · exact hL z q
    · have : z = y := by simpa using q
      rw [this]; exact hy
  · subst e
    have ll : L.length ≤ 2 := by omega
    refine wp_seq (wp_forR1P (Pn := fun m => 0 ≤ m ∧ m ≤ 2) (fun _ i Γ => ∃ L s6 s8 s9, Γ = [.row, .im (.int (3 : Nat)), .im (.int (5 : Nat)), .im (.int (n : Nat)), .im (.int (wy : Nat)), .ml (L.map prD), s6, .im (.list (natsD cs)), s8, s9, .un, .un, .un, .un, .un] ∧ (∀ x ∈ L, x.1 < n ∧ x.2 < n) ∧ L.length ≤ 2 + i)
      (fun F H σ o Q q => eap_one (evp_if (Pt := fun _ => True) (P := fun d => ∃ m : Int, (0 ≤ m ∧ m ≤ 2) ∧ d = .int m) (etp_mono (et_test (ev_op (ev_var rfl) ev_int opd_gt)) fun _ _ => trivial) (fun _ => evp_mono (ev_take (m := 3) rfl (ea_cons ev_int ea_nil) (by decide)) fun d ⟨x, hx, e⟩ => ⟨(x : Nat), by omega, e⟩) (fun _ => evp_mono ev_int fun d e => ⟨0, by decide, e⟩)) F H σ o Q fun ds vs F' H' ⟨d, e, m, hm, e2⟩ => q ds vs F' H' ⟨m, by rw [e, e2], hm⟩)
      (fun m hm => by omega) (fun m hm => ⟨L, _, _, _, rfl, hL, by omega⟩) (fun m i Γ' hm hi ⟨L, s6, s8, s9, e, hL, ll⟩ => ?_) (fun m Γ' hm ⟨L, s6, s8, s9, e, hL, ll⟩ => ?_))
    · subst e
      refine tg_name (wp_append rfl (Pe := fun d => ∃ y : Nat × Nat, (y.1 < n ∧ y.2 < n) ∧ d = prD y) (evp_tup (Ps := fun ds => ∃ y : Nat × Nat, (y.1 < n ∧ y.2 < n) ∧ ds = [.int (y.1 : Nat), .int (y.2 : Nat)]) (eap_cons (ev_take (m := n) rfl (ea_cons (ev_var rfl) ea_nil) (by omega)) (fun _ _ => eap_one (ev_take (m := n) rfl (ea_cons (ev_var rfl) ea_nil) (by omega))) fun d ds ⟨x, hx, e⟩ ⟨d2, e2, y, hy, e3⟩ => ⟨(x, y), ⟨hx, hy⟩, by rw [e, e2, e3]⟩) fun ds ⟨y, hy, e⟩ => by rw [e]; exact ⟨Nat.le_of_ble_eq_true rfl, y, hy, rfl⟩) (by rw [List.length_map]; omega) fun d ⟨y, hy, e⟩ => ?_)
      subst e
      refine ⟨L ++ [y], _, _, _, set_ml (b := (L ++ [y]).map prD) (by rw [List.map_append]; rfl) rfl, fun z hz => ?_, by rw [List.length_append, List.length_singleton]; omega⟩
      rcases List.mem_append.mp hz with q | q
      · exact hL z q
      · have : z = y := by simpa using q
        rw [this]; exact hy
    · subst e
      have ll : L.length ≤ 4 := by omega
      have hcs : ∀ v, v < n → 1 ≤ rv cs v ∧ rv cs v ≤ 4 := fun v hv => hc _ (List.mem_of_getElem? (rv_get (r := cs) (v := v) (by omega)))
      refine wp_seq (wp_setS evs_nil ?_)
      refine wp_freeze (i := 5) rfl rfl (wp_seq (wp_forL (Pl := fun _ => True) (ds := L.map prD) (fun i Γ => ∃ (ps : List Pipe) (t1 t2 t3 t4 : Sk), Γ = [.row, .im (.int (3 : Nat)), .im (.int (5 : Nat)), .im (.int (n : Nat)), .im (.int (wy : Nat)), .im (.list (L.map prD)), s6, .im (.list (natsD cs)), s8, s9, .ml (ps.map pipeD), t1, t2, t3, t4] ∧ (∀ p ∈ ps, (p.one < n ∧ p.other < n) ∧ rv cs p.one * p.give = rv cs p.other * p.eat ∧ (1 ≤ p.give ∧ p.give ≤ 8) ∧ (1 ≤ p.eat ∧ p.eat ≤ 8) ∧ p.start ≤ 5) ∧ ps.length ≤ i)
        (ev_var rfl) ⟨[], _, _, _, _, rfl, fun p hp => (nomatch hp), Nat.le_refl _⟩ (fun i d Γ' hd ⟨ps, t1, t2, t3, t4, e, hp, lp⟩ => ?_) (fun Γ' ⟨ps, t1, t2, t3, t4, e, hp, lp⟩ => ?_)))
      · subst e
        obtain ⟨y, hy, rfl⟩ := map_get hd
        obtain ⟨y1, y2⟩ := hL y (List.mem_of_getElem? hy)
        have il := (List.getElem?_eq_some_iff.mp hy).1
        have c1 := hcs y.1 y1
        have c2 := hcs y.2 y2
        have eo : ∀ {B : Bs} {Γ : List Sk} {a : Nat}, Γ[7]? = some (.im (.list (natsD cs))) → ∀ {u : Nat}, u < n → Γ[a]? = some (.im (.int (u : Nat))) → Ev B (tOp (rIx K) (tVar 7) (tVar a)) Γ (.int (rv cs u : Nat)) := fun {B Γ a} h1 {u} hu h2 => ev_ixN (ev_var h1) (ev_var h2) (rv_get (by omega))
        have g0 : 1 ≤ Nat.gcd (rv cs y.1) (rv cs y.2) := Nat.gcd_pos_of_pos_left _ c1.1
        have g4 : Nat.gcd (rv cs y.1) (rv cs y.2) ≤ 4 := Nat.le_trans (Nat.gcd_le_left _ c1.1) c1.2
        refine tg_tup rfl (bts_name (bts_name (bts_nil ?_)))
        refine wp_seq (wp_set (d := .int (Nat.gcd (rv cs y.1) (rv cs y.2) : Nat)) (ev_eq (ev_callA (((rv cs y.1 : Nat) : Int), ((rv cs y.2 : Nat) : Int)) (ea_cons (eo rfl y1 rfl) (ea_cons (eo rfl y2 rfl) ea_nil)) rfl trivial) (by rw [gcd_nat])) ?_)
        refine wp_seq (wp_setP (ev_callD [1, 1, 2] rfl (ea_cons (ev_lst (ea_cons ev_int (ea_cons ev_int (ea_cons ev_int ea_nil)))) ea_nil) rfl (by decide)) fun d ⟨mo, hmo, e⟩ => ?_)
        subst e
        have m12 : 1 ≤ mo ∧ mo ≤ 2 := by
          simp at hmo
          omega
        have bd : ∀ {x : Nat}, 1 ≤ x ∧ x ≤ 4 → Nat.gcd (rv cs y.1) (rv cs y.2) ∣ x → 1 ≤ mo * x / Nat.gcd (rv cs y.1) (rv cs y.2) ∧ mo * x / Nat.gcd (rv cs y.1) (rv cs y.2) ≤ 8 := fun {x} hx hd => by
          have h1 : mo * x ≤ 2 * 4 := Nat.mul_le_mul m12.2 hx.2
          have h2 : x ≤ mo * x := Nat.le_mul_of_pos_left _ m12.1
          have h3 := Nat.le_of_dvd hx.1 hd
          exact ⟨Nat.div_pos (by omega) g0, Nat.le_trans (Nat.div_le_self ..) (by omega)⟩
        have b1 := bd c2 (Nat.gcd_dvd_right ..)
        have b2 := bd c1 (Nat.gcd_dvd_left ..)
        have hbal := mul_gcd (m := mo) c1.1 c2.1
        refine wp_append rfl (Pe := fun d => ∃ st : Nat, st ≤ 5 ∧ d = pipeD ⟨y.1, y.2, mo * rv cs y.2 / Nat.gcd (rv cs y.1) (rv cs y.2), mo * rv cs y.1 / Nat.gcd (rv cs y.1) (rv cs y.2), st⟩) ?_ (by rw [List.length_map]; omega) fun d ⟨st, hst, e⟩ => ?_
        · refine evp_tup (Ps := fun ds => ∃ st : Nat, st ≤ 5 ∧ ds = [.int (y.1 : Nat), .int (y.2 : Nat), .int ((mo * rv cs y.2 / Nat.gcd (rv cs y.1) (rv cs y.2) : Nat) : Nat), .int ((mo * rv cs y.1 / Nat.gcd (rv cs y.1) (rv cs y.2) : Nat) : Nat), .int (st : Nat)]) ?_ fun ds ⟨st, h, e⟩ => by rw [e]; exact ⟨Nat.le_of_ble_eq_true rfl, st, h, rfl⟩
          refine eap_cons (ev_var rfl) (fun _ _ => eap_cons (ev_var rfl) (fun _ _ => eap_cons (ev_eq (ev_op (ev_op (ev_var rfl) (eo rfl y2 rfl) (opd_mul (sm_nat (by omega)).mul)) (ev_var rfl) (opd_fdiv ⟨by omega, by omega⟩)) (d' := .int ((mo * rv cs y.2 / Nat.gcd (rv cs y.1) (rv cs y.2) : Nat) : Nat)) (by rw [← Int.natCast_mul, fdiv_nat])) (fun _ _ => eap_cons (ev_eq (ev_op (ev_op (ev_var rfl) (eo rfl y1 rfl) (opd_mul (sm_nat (by omega)).mul)) (ev_var rfl) (opd_fdiv ⟨by omega, by omega⟩)) (d' := .int ((mo * rv cs y.1 / Nat.gcd (rv cs y.1) (rv cs y.2) : Nat) : Nat)) (by rw [← Int.natCast_mul, fdiv_nat])) (fun _ _ => eap_one (ev_take (m := 6) rfl (ea_cons (ev_op (ev_var rfl) ev_int opd_add) ea_nil) (by decide)))
            (P := fun ds => ∃ st : Nat, st ≤ 5 ∧ ds = [.int ((mo * rv cs y.1 / Nat.gcd (rv cs y.1) (rv cs y.2) : Nat) : Nat), .int (st : Nat)]) fun d ds e ⟨d2, e2, st, h, e3⟩ => ⟨st, by omega, by rw [e, e2, e3]⟩)
            (P := fun ds => ∃ st : Nat, st ≤ 5 ∧ ds = [.int ((mo * rv cs y.2 / Nat.gcd (rv cs y.1) (rv cs y.2) : Nat) : Nat), .int ((mo * rv cs y.1 / Nat.gcd (rv cs y.1) (rv cs y.2) : Nat) : Nat), .int (st : Nat)]) fun d ds e ⟨st, h, e3⟩ => ⟨st, h, by rw [e, e3]⟩)
            (P := fun ds => ∃ st : Nat, st ≤ 5 ∧ ds = [.int (y.2 : Nat), .int ((mo * rv cs y.2 / Nat.gcd (rv cs y.1) (rv cs y.2) : Nat) : Nat), .int ((mo * rv cs y.1 / Nat.gcd (rv cs y.1) (rv cs y.2) : Nat) : Nat), .int (st : Nat)]) fun d ds e ⟨st, h, e3⟩ => ⟨st, h, by rw [e, e3]⟩) fun d ds e ⟨st, h, e3⟩ => ⟨st, h, by rw [e, e3]⟩
        · subst e
          refine ⟨ps ++ [⟨y.1, y.2, mo * rv cs y.2 / Nat.gcd (rv cs y.1) (rv cs y.2), mo * rv cs y.1 / Nat.gcd (rv cs y.1) (rv cs y.2), st⟩], _, _, _, _, set_ml (b := (ps ++ [_]).map pipeD) (by rw [List.map_append]; rfl) rfl, fun p hp' => ?_, by rw [List.length_append, List.length_singleton]; omega⟩
          rcases List.mem_append.mp hp' with q | q
          · exact hp p q
          · have : p = _ := List.mem_singleton.mp q
            subst this
            exact ⟨⟨y1, y2⟩, hbal, b1, b2, hst⟩
      · subst e
        rw [List.length_map] at lp
        refine wp_freeze (i := 10) rfl rfl (wp_retD (ev_tup (ea_cons (ev_var rfl) (ea_cons (ev_cb (ea_cons (ev_var rfl) ea_nil) cd_tuple) ea_nil))) ⟨⟨n, ps⟩, rv cs, rfl, ?_, fun p h => (hp p h).2.2.2.2⟩)
        exact ⟨⟨⟨by dsimp only; omega, by dsimp only; omega, fun p h => (hp p h).1⟩, fun p h => (hp p h).2.1, hcs, fun p h => ⟨(hp p h).2.2.1, (hp p h).2.2.2.1⟩⟩, hn, by dsimp only; omega⟩
end
end Dl
set_option Elab.async false
set_option linter.all false
set_option maxRecDepth 100000
set_option maxHeartbeats 1000000
/-! Walks 21: the law's live flow, durations. -/
namespace Dl
open PySem PySem.Spec PyProof.Rows L2 C8 Rf
/-! ### flows that differ in their marks alone -/
structure Like (f f' : Flow) : Prop where
  n : f'.n = f.n
  len : f'.ps.length = f.ps.length
  ps : ∀ (i : Nat) (p p' : Pipe), f.ps[i]? = some p → f'.ps[i]? = some p' → p'.one = p.one ∧ p'.other = p.other ∧ p'.give = p.give ∧ p'.eat = p.eat
theorem Like.of {f f' : Flow} (h : Like f f') {p' : Pipe} (hp : p' ∈ f'.ps) : ∃ p ∈ f.ps, p'.one = p.one ∧ p'.other = p.other ∧ p'.give = p.give ∧ p'.eat = p.eat := by
  obtain ⟨i, hi, e⟩ := List.mem_iff_getElem.mp hp
  have hi2 : i < f.ps.length := by rw [← h.len]; exact hi
  exact ⟨f.ps[i], List.getElem_mem hi2, h.ps i _ _ (List.getElem?_eq_getElem hi2) (by rw [List.getElem?_eq_getElem hi, e])⟩
theorem Like.symm {f f' : Flow} (h : Like f f') : Like f' f := ⟨h.n.symm, h.len.symm, fun i p p' h1 h2 => by obtain ⟨a, b, c, d⟩ := h.ps i p' p h2 h1; exact ⟨a.symm, b.symm, c.symm, d.symm⟩⟩
theorem Like.near {f f' : Flow} (h : Like f f') {u v : Nat} (hv : v ∈ nearL f' u) : v ∈ nearL f u := by
  obtain ⟨p', hp', hh⟩ := near_mem.mp hv
  obtain ⟨p, hp, e1, e2, _⟩ := h.of hp'
  exact near_mem.mpr ⟨p, hp, by rw [← e1, ← e2]; exact hh⟩
theorem Like.conn {f f' : Flow} (h : Like f f') {u v : Nat} (hc : Conn f' u v) : Conn f u v := by
  induction hc with
  | refl => exact .refl
  | step _ hn ih => exact .step ih (h.near hn)
theorem Like.comp {f f' : Flow} (h : Like f f') (u : Nat) : comp f' u = comp f u := sorted_ext (comp_sorted ..) (comp_sorted ..) fun x => by
  rw [comp_mem, comp_mem, h.n]
  exact ⟨fun a => ⟨a.1, h.conn a.2⟩, fun a => ⟨a.1, h.symm.conn a.2⟩⟩
theorem Like.rnd {f f' : Flow} (h : Like f f') (c : Nat → Nat) (v : Nat) : rnd f' c v = rnd f c v := by
  unfold Dl.rnd grp root
  rw [h.comp]
theorem Like.rndL {f f' : Flow} (h : Like f f') (c : Nat → Nat) : rndL f' c = rndL f c := by
  unfold Dl.rndL
  rw [h.n]
  exact List.map_congr_left fun v _ => h.rnd c v
theorem Like.drawn {f f' : Flow} {c : Nat → Nat} (h : Like f f') (d : Drawn f c) : Drawn f' c := by
  refine ⟨⟨⟨by rw [h.n]; exact d.n, by rw [h.len]; exact d.ps, fun p hp => ?_⟩, fun p hp => ?_, fun v hv => d.pos v (by rw [← h.n]; exact hv), fun p hp => ?_⟩, by rw [h.n]; exact d.n13, by rw [h.len]; exact d.len⟩
  · obtain ⟨q, hq, e1, e2, _⟩ := h.of hp
    rw [e1, e2, h.n]
    exact d.ends q hq
  · obtain ⟨q, hq, e1, e2, e3, e4⟩ := h.of hp
    rw [e1, e2, e3, e4]
    exact d.bal q hq
  · obtain ⟨q, hq, e1, e2, e3, e4⟩ := h.of hp
    rw [e3, e4]
    exact d.rate q hq
theorem with_like {f : Flow} {m : List Nat} (h : m.length = f.ps.length) : Like f (withStart f m) := by
  refine ⟨rfl, ?_, fun i p p' h1 h2 => ?_⟩
  · unfold withStart
    simp only [List.length_zipWith, h, Nat.min_self]
  · unfold withStart at h2
    simp only [List.getElem?_zipWith, h1] at h2
    obtain ⟨x, hx⟩ : ∃ x, m[i]? = some x := ⟨_, List.getElem?_eq_getElem (by rw [h]; exact (List.getElem?_eq_some_iff.mp h1).1)⟩
    rw [hx] at h2
    have := Option.some.inj h2
    subst this
    exact ⟨rfl, rfl, rfl, rfl⟩
theorem with_start {f : Flow} {m : List Nat} {i : Nat} {p' : Pipe} (h2 : (withStart f m).ps[i]? = some p') : ∃ p x, f.ps[i]? = some p ∧ m[i]? = some x ∧ p' = { p with start := x } := by
  unfold withStart at h2
  simp only [List.getElem?_zipWith] at h2
  cases e : f.ps[i]? with
  | none => rw [e] at h2; cases h2
  | some p =>
    cases e' : m[i]? with
    | none => rw [e, e'] at h2; cases h2
    | some x =>
      rw [e, e'] at h2
      exact ⟨p, x, rfl, rfl, (Option.some.inj h2).symm⟩
theorem Like.trans {f f' f2 : Flow} (a : Like f f') (b : Like f' f2) : Like f f2 := ⟨b.n.trans a.n, b.len.trans a.len, fun i p p2 h1 h2 => by
  obtain ⟨p', h3⟩ : ∃ p', f'.ps[i]? = some p' := ⟨_, List.getElem?_eq_getElem (by rw [a.len]; exact (List.getElem?_eq_some_iff.mp h1).1)⟩
  obtain ⟨x1, x2, x3, x4⟩ := a.ps i p p' h1 h3
  obtain ⟨y1, y2, y3, y4⟩ := b.ps i p' p2 h3 h2
  exact ⟨y1.trans x1, y2.trans x2, y3.trans x3, y4.trans x4⟩⟩
theorem Drawn.fine {f : Flow} {c : Nat → Nat} (d : Drawn f c) (hs : ∀ p ∈ f.ps, p.start ≤ 400) (l : Live f c) : Fine f c :=
  ⟨d.toGood, ⟨d.n13, d.len, fun p hp => ⟨(d.ends p hp).1, (d.ends p hp).2, (d.rate p hp).1, (d.rate p hp).2, hs p hp⟩⟩, l⟩
/-- with marks for all that will be eaten every word goes -/
theorem rich_live {f : Flow} {c : Nat → Nat} (hs : ∀ p ∈ f.ps, p.start = p.eat * rnd f c p.other) : Live f c := by
  have go : ∀ (k : Nat) (w m : List Nat), Under f (rndL f c) w m → gap f.n (rndL f c) w = k → ∃ w m, Run f w m ∧ ∀ v, v < f.n → w.count v = rnd f c v := by
    intro k
    induction k using Nat.strongRecOn with
    | _ k ih =>
      intro w m U hk
      by_cases h : ∃ v, v < f.n ∧ w.count v < rv (rndL f c) v
      · obtain ⟨v, hv, lt⟩ := h
        have hc : can f m v := fun i p x h1 h2 h3 => by
          have mk := U.run.marks i p x h1 h2
          rw [hs p (List.mem_of_getElem? h1), h3] at mk
          rw [rv_rnd hv] at lt
          have := Nat.mul_le_mul_left p.eat (show w.count v + 1 ≤ rnd f c v from lt)
          rw [Nat.mul_add, Nat.mul_one] at this
          omega
        exact ih _ (by rw [← hk]; exact gap_lt hv lt) _ _ (U.snoc hv lt hc) rfl
      · refine ⟨w, m, U.run, fun v hv => ?_⟩
        have h1 := U.le v hv
        have h2 : ¬ w.count v < rv (rndL f c) v := fun z => h ⟨v, hv, z⟩
        rw [rv_rnd hv] at h1 h2
        omega
  exact go _ [] (marks f) ⟨.nil, fun v _ => Nat.zero_le _⟩ rfl
theorem cut_take {l : List Nat} {k : Nat} (h : k ≤ l.length) : cutD (natsD l) none (some (k : Int)) = natsD (l.take k) := by
  unfold cutD
  rw [HT.sIx_none, HT.sIx_nat, List.length_map, Nat.min_eq_left h, Nat.sub_zero, List.drop_zero]
  unfold natsD
  rw [List.map_take]
theorem cut_drop {l : List Nat} {k : Nat} (h : k ≤ l.length) : cutD (natsD l) (some (k : Int)) none = natsD (l.drop k) := by
  unfold cutD
  rw [HT.sIx_none, HT.sIx_nat, List.length_map, Nat.min_eq_left h]
  unfold natsD
  rw [← List.map_drop, List.take_of_length_le (by rw [List.length_map, List.length_drop]; omega)]
section
variable {P : Program} {w : World} {K : PySem.W.Frag} {mg : PySem.Str → Option Value} {base : Heap}
theorem sc__law_durations : FnScope ["_law_row", "_law_flow_here", "_law_box"] ["_law_row", "_law_flow_here"] (defScope s_law_durations) := ⟨rfl, rfl, rfl, by decide +kernel, rfl, by decide +kernel, by decide +kernel⟩
abbrev spDur (K : PySem.W.Frag) : Sp := spD K (fun f : Flow => [flowD f]) (fun f => f.n ≤ 3) (fun f r => ∃ ts, r = marksD ts ∧ TimesOk f ts)
theorem ok__law_durations (T : Tx mg) (F : Df K mg "_law_durations" s_law_durations) (c__law_pick : Cal P w K mg base 2 "_law_pick" (spPick K) []) (c__law_taken : Cal P w K mg base 1 "_law_taken" (spTake K) []) : Cal P w K mg base 3 "_law_durations" (spDur K) [] := by
  refine calD _ _ _ F sc__law_durations rfl (by decide) (fun _ => rfl) (fun _ _ _ _ _ _ us hl => match us, hl with | [_, _], _ => rfl) fun f cdv A outer s H E hr => ⟨_,
    (pss_one (ps_ret (pe_callTy call_tuple_of (by rfl) T.m_tuple (by decide +kernel) (pa_cons (pe_lc (own := [("_law_box", 2)]) (g := (gName 2)) (tt := tYes) rfl sc__law_durations.nd (pi_range1 (by rfl) T.m_range (pa_cons (pe_ix ix_seq (pv 1) pe_int (fun _ _ => rfl)) pa_nil)) (blkOk_by (own := [("_law_box", 2)]) (N := ["_law_row", "_law_flow_here", "_law_box"]) (sc := defScope s_law_durations) (by decide +kernel)) (fun _ _ _ _ _ => (pg_name (i := 2) sc__law_durations.nd rfl (.inl rfl))) (fun _ _ _ _ _ => pts_nil) (fun _ _ _ _ _ => (pe_op op_add pe_int (pe_c c__law_taken hr (by decide) (by rfl) (pa_cons (pv 0) (pa_cons (pe_c c__law_pick hr (by decide) (by rfl) (pa_cons (pv 0) (pa_cons (pe_lst (pa_cons pe_int (pa_cons pe_int (pa_cons pe_int pa_nil)))) pa_nil))) pa_nil)))))) pa_nil)))), fun F0 a x hx => ?_⟩
  refine wp_ret (evp_cb (Ps := fun ds => ∃ ts : List Nat, ds = [.list (natsD ts)] ∧ TimesOk x ts) (fun F H σ o Q q => eap_one (evp_lcR1 (n := (x.n : Nat)) (Pb := fun _ b => b = true) (Pe := fun _ e => ∃ n : Nat, (1 ≤ n ∧ n ≤ 99) ∧ e = .int (n : Nat)) (ea_cons (ev_op (ev_var rfl) ev_int (opd_ixT rfl)) ea_nil) (by omega) fun i hi => ⟨_, bn_name (by simp), etp_yes, fun _ => ev_1tp (l := [1, 4, 99]) (M := 99) rfl (ea_cons (ev_lst (ea_cons ev_int (ea_cons ev_int (ea_cons ev_int ea_nil)))) ea_nil) (by decide) (by decide) (by decide)⟩) F H σ o Q fun ds vs F' H' ⟨d, e, es, e2, lr⟩ => by
      obtain ⟨cs, h1, h2, h3⟩ := lcr_nats lr
      rw [rngD_len, Int.toNat_natCast] at h2
      exact q ds vs F' H' ⟨cs, by rw [e, e2, h1], h2, h3⟩) (P := fun r => ∃ ts, r = marksD ts ∧ TimesOk x ts) fun ds ⟨ts, e, h⟩ F H xs e1 e2 Q q => ?_) fun d h => h
  subst e
  exact cd_tuple F H xs e1 e2 Q fun d v F' H' e => q d v F' H' ⟨ts, e, h⟩
theorem sc__law_live : FnScope ["_law_row", "_law_most", "_law_top", "_law_flow_here", "_law_counts", "_law_turn", "_law_done", "_law_some_here", "_law_k", "_law_left", "_law_pipe"] ["_law_row", "_law_most", "_law_top"] (defScope s_law_live) := ⟨rfl, rfl, rfl, by decide +kernel, rfl, by decide +kernel, by decide +kernel⟩
abbrev spLive (K : PySem.W.Frag) : Sp := spD K (fun x : Nat × Nat => [.int (x.1 : Nat), .int (x.2 : Nat)]) (fun x => x = (3, 5)) (fun _ r => ∃ f c, r = flowD f ∧ Fine f c)
theorem ok__law_live (T : Tx mg) (F : Df K mg "_law_live" s_law_live) (c__law_do : Cal P w K mg base 2 "_law_do" spMost []) (c__law_flow : Cal P w K mg base 3 "_law_flow" (spFlow K) []) (c__law_pick : Cal P w K mg base 2 "_law_pick" (spPick K) []) (c__law_round : Cal P w K mg base 3 "_law_round" spReps []) (c__law_some : Cal P w K mg base 1 "_law_some" spMarks []) (c__law_with : Cal P w K mg base 1 "_law_with" spWith []) : Cal P w K mg base 4 "_law_live" (spLive K) [] := by
  refine calD _ _ _ F sc__law_live rfl (by decide) (fun _ => rfl) (fun _ _ _ _ _ _ us hl => match us, hl with | [_, _, _], _ => rfl) fun f cdv A outer s H E hr => ⟨_,
    (pss_cons (ps_set (i := 3) sc__law_live.nd rfl (.inr rfl) (pe_c c__law_flow hr (by decide) (by rfl) (pa_cons (pv 0) (pa_cons (pv 1) (pa_cons (pv 2) pa_nil)))))
      (pss_cons (ps_set (i := 4) sc__law_live.nd rfl (.inr rfl) (pe_c c__law_round hr (by decide) (by rfl) (pa_cons (pv 3) pa_nil)))
      (pss_cons (ps_for PassesOwn.never rfl (pi_range1 (by rfl) T.m_range (pa_cons pe_int pa_nil)) (pg_name (i := 5) sc__law_live.nd rfl (.inl rfl)) (pss_cons (ps_asg (pe_c c__law_do hr (by decide) (by rfl) (pa_cons (pv 3) (pa_cons (pv 4) pa_nil))) (pg_tup rfl (pgs_cons (pg_name (i := 6) sc__law_live.nd rfl (.inr rfl)) (pgs_cons (pg_name (i := 7) sc__law_live.nd rfl (.inr rfl)) pgs_nil))))
      (pss_cons (ps_setLc (i := 9) (own := [("_law_k", 8)]) (g := (gName 8)) rfl sc__law_live.nd rfl rfl (sw_true rfl rfl rfl (by decide +kernel)) (pi_range1 (by rfl) T.m_range (pa_cons (pe_callB call_len_seq (by rfl) T.m_len PySem.boot_len (pa_cons (pv 7) pa_nil)) pa_nil)) (blkOk_by (own := [("_law_k", 8)]) (N := ["_law_row", "_law_most", "_law_top", "_law_flow_here", "_law_counts", "_law_turn", "_law_done", "_law_some_here", "_law_k", "_law_left", "_law_pipe"]) (sc := defScope s_law_live) (by decide +kernel)) (fun _ _ _ _ _ => (pg_name (i := 8) sc__law_live.nd rfl (.inl rfl))) (fun _ _ _ _ _ => (pts_one (PW.pt (pw_and (pt_cmpR op_lt (pe_ix (ix_seqK (K := K) rfl) (pv 6) (pe_ix (ix_seqK (K := K) rfl) (pe_ix (ix_seqK (K := K) rfl) (pe_ix (ix_seqK (K := K) rfl) (pv 3) pe_int (fun _ _ => rfl)) (pv 8) (fun _ _ => rfl)) pe_int (fun _ _ => rfl)) (fun _ _ => rfl)) (pe_ix (ix_seqK (K := K) rfl) (pv 4) (pe_ix (ix_seqK (K := K) rfl) (pe_ix (ix_seqK (K := K) rfl) (pe_ix (ix_seqK (K := K) rfl) (pv 3) pe_int (fun _ _ => rfl)) (pv 8) (fun _ _ => rfl)) pe_int (fun _ _ => rfl)) (fun _ _ => rfl)) (nomark _)) (pw_and1 (pt_cmpR op_lt (pe_ix (ix_seqK (K := K) rfl) (pv 7) (pv 8) (fun _ _ => rfl)) (pe_ix (ix_seqK (K := K) rfl) (pe_ix (ix_seqK (K := K) rfl) (pe_ix (ix_seqK (K := K) rfl) (pv 3) pe_int (fun _ _ => rfl)) (pv 8) (fun _ _ => rfl)) pe_int (fun _ _ => rfl)) (nomark _))))))) (fun _ _ _ _ _ => (pv 8)))
      (pss_one (ps_if (pt_cmpR (op_neD (hu64 hr)) (pv 9) (pe_lst pa_nil) (nomark _)) (pss_cons (ps_set (i := 8) sc__law_live.nd rfl (.inl rfl) (pe_c c__law_pick hr (by decide) (by rfl) (pa_cons (pv 0) (pa_cons (pv 9) pa_nil))))
      (pss_one (ps_set (i := 3) sc__law_live.nd rfl (.inr rfl) (pe_c c__law_with hr (by decide) (by rfl) (pa_cons (pv 3) (pa_cons (pe_op op_catA (pe_op op_catA (pe_slice sl_tupA (pe_c c__law_some hr (by decide) (by rfl) (pa_cons (pv 3) pa_nil)) po_none (po_some (pv 8))) (pe_tup (pa_cons (pe_op op_add (pe_ix ix_seq (pe_ix ix_seq (pe_ix ix_seq (pv 3) pe_int (fun _ _ => rfl)) (pv 8) (fun _ _ => rfl)) pe_int (fun _ _ => rfl)) (pe_ix ix_seq (pe_ix ix_seq (pe_ix ix_seq (pv 3) pe_int (fun _ _ => rfl)) (pv 8) (fun _ _ => rfl)) pe_int (fun _ _ => rfl))) pa_nil))) (pe_slice sl_tupA (pe_c c__law_some hr (by decide) (by rfl) (pa_cons (pv 3) pa_nil)) (po_some (pe_op op_add (pv 8) pe_int)) po_none)) pa_nil)))))) pss_nil)))))
      (pss_cons (ps_if (pt_cmpR (op_neD (hu64 hr)) (pe_ix ix_seq (pe_c c__law_do hr (by decide) (by rfl) (pa_cons (pv 3) (pa_cons (pv 4) pa_nil))) pe_int (fun _ _ => rfl)) (pv 4) (nomark _)) (pss_one (ps_set (i := 3) sc__law_live.nd rfl (.inr rfl) (pe_c c__law_with hr (by decide) (by rfl) (pa_cons (pv 3) (pa_cons (pe_callTy call_tuple_of (by rfl) T.m_tuple (by decide +kernel) (pa_cons (pe_lc (own := [("_law_pipe", 10)]) (g := (gName 10)) (tt := tYes) rfl sc__law_live.nd (pi_tup (pe_ix ix_seq (pv 3) pe_int (fun _ _ => rfl))) (blkOk_by (own := [("_law_pipe", 10)]) (N := ["_law_row", "_law_most", "_law_top", "_law_flow_here", "_law_counts", "_law_turn", "_law_done", "_law_some_here", "_law_k", "_law_left", "_law_pipe"]) (sc := defScope s_law_live) (by decide +kernel)) (fun _ _ _ _ _ => (pg_name (i := 10) sc__law_live.nd rfl (.inl rfl))) (fun _ _ _ _ _ => pts_nil) (fun _ _ _ _ _ => (pe_op op_mul (pe_ix (ix_seqK (K := K) rfl) (pv 10) pe_int (fun _ _ => rfl)) (pe_ix (ix_seqK (K := K) rfl) (pv 4) (pe_ix (ix_seqK (K := K) rfl) (pv 10) pe_int (fun _ _ => rfl)) (fun _ _ => rfl))))) pa_nil)) pa_nil))))) pss_nil)
      (pss_one (ps_ret (pv 3))))))), fun F0 a x hx => ?_⟩
  subst hx
  show Wp _ _ ([.row, .im (.int (3 : Nat)), .im (.int (5 : Nat))] ++ List.replicate _ .un) _
  refine wp_seq (wp_setP (ev_callD ((3, 5) : Nat × Nat) rfl (ea_cons (ev_var rfl) (ea_cons (ev_var rfl) ea_nil)) rfl rfl) fun d ⟨f0, c, e, d0, st0⟩ => ?_)
  subst e
  refine wp_seq (wp_set (ev_callA (f0, c) (ea_cons (ev_var rfl) ea_nil) rfl d0.toGood) ?_)
  refine wp_seq (wp_forR1 (n := 40) (Pn := fun _ => True) (fun i Γ => ∃ f s5 s6 s7 s8 s9, Γ = [.row, .im (.int (3 : Nat)), .im (.int (5 : Nat)), .im (flowD f), .im (.list (natsD (rndL f0 c))), s5, s6, s7, s8, s9, .un] ∧ Like f0 f ∧ ∀ p ∈ f.ps, p.start ≤ 5 + 8 * i) (ea_cons ev_int ea_nil) (by decide)
    ⟨f0, _, _, _, _, _, rfl, ⟨rfl, rfl, fun i p p' h1 h2 => by rw [h1] at h2; cases h2; exact ⟨rfl, rfl, rfl, rfl⟩⟩, st0⟩ (fun i Γ' hi ⟨f, s5, s6, s7, s8, s9, e, lk, st⟩ => ?_) (fun Γ' ⟨f, s5, s6, s7, s8, s9, e, lk, st⟩ => ?_))
  · subst e
    have dr := lk.drawn d0
    have er := lk.rndL c
    rw [← er]
    have ro := dr.toGood.runOk
    have ps4 := dr.len
    refine tg_name (wp_seq (wp_asgG (ev_callA (f, rndL f c) (ea_cons (ev_var rfl) (ea_cons (ev_var rfl) ea_nil)) rfl ro) fun d ⟨w, m, F, e⟩ => ?_))
    subst e
    have ml : m.length = f.ps.length := F.run.len
    refine tg_tup rfl (bts_name (bts_name (bts_nil ?_)))
    have ep : ∀ {B : Bs} {Γ : List Sk} {k : Nat} {p : Pipe}, Γ[3]? = some (.im (flowD f)) → Γ[8]? = some (.im (.int (k : Nat))) → f.ps[k]? = some p → Ev B (tOp (rIx K) (tOp (rIx K) (tVar 3) (tC (.int 1))) (tVar 8)) Γ (pipeD p) := fun h1 h2 h3 => ev_ixTm (ev_op (ev_var h1) ev_int (opd_ixT rfl)) (ev_var h2) h3
    refine wp_seq (wp_set (ev_lcRm (n := m.length) (fun k => match f.ps[k]?, m[k]? with | some p, some y => decide (w.count p.other < rnd f c p.other) && decide (y < p.eat) | _, _ => false) (fun k => .int (k : Nat)) (ea_cons (ev_cb (ea_cons (ev_var rfl) ea_nil) (by have := cd_lenT (K := K) (ds := natsD m); rw [List.length_map] at this; exact this)) ea_nil) (by omega) fun k hk => ?_) ?_)
    · obtain ⟨p, hp⟩ : ∃ p, f.ps[k]? = some p := ⟨_, List.getElem?_eq_getElem (by omega)⟩
      obtain ⟨y, hy⟩ : ∃ y, m[k]? = some y := ⟨_, List.getElem?_eq_getElem hk⟩
      have pe := dr.ends p (List.mem_of_getElem? hp)
      rw [hp, hy]
      refine ⟨_, bn_name (by simp), ?_, fun _ => ev_var rfl⟩
      refine et_eq (et_and (et_test (ev_op (ev_ixN (ev_var rfl) (ev_op (ep rfl rfl hp) ev_int (opd_ixT rfl)) (cnt_get pe.2)) (ev_ixN (ev_var rfl) (ev_op (ep rfl rfl hp) ev_int (opd_ixT rfl)) (rndL_get pe.2)) opd_lt)) fun _ => et_test (ev_op (ev_ixNT (ev_var rfl) (ev_var rfl) hy) (ev_op (ep rfl rfl hp) ev_int (opd_ixT rfl)) opd_lt)) ?_
      congr 1
      · exact decide_eq_decide.mpr (by omega)
      · exact decide_eq_decide.mpr (by omega)
    generalize hl : (List.range m.length).filter (fun k => match f.ps[k]?, m[k]? with | some p, some y => decide (w.count p.other < rnd f c p.other) && decide (y < p.eat) | _, _ => false) = l
    have lm : ∀ k ∈ l, k < f.ps.length := fun k hk => by
      rw [← hl, List.mem_filter, List.mem_range] at hk
      omega
    have ll : l.length ≤ 4 := by
      rw [← hl]
      have := List.length_filter_le (fun k => match f.ps[k]?, m[k]? with | some p, some y => decide (w.count p.other < rnd f c p.other) && decide (y < p.eat) | _, _ => false) (List.range m.length)
      rw [List.length_range] at this
      omega
    refine wp_ifD (ne_nil_nats (ev_var rfl)) (fun e => ?_) (fun e => wp_next ⟨f, _, _, _, _, _, by rw [er]; rfl, lk, fun p hp => by have := st p hp; omega⟩)
    have ne : l ≠ [] := by simpa using e
    have lp : 0 < l.length := List.length_pos_iff.mpr ne
    refine wp_seq (wp_setP (ev_callD l rfl (ea_cons (ev_var rfl) ea_nil) rfl (by exact ⟨lp, by omega⟩)) fun d ⟨k, hk, e⟩ => ?_)
    subst e
    have kl := lm k hk
    obtain ⟨p, hp⟩ : ∃ p, f.ps[k]? = some p := ⟨_, List.getElem?_eq_getElem kl⟩
    have pm := List.mem_of_getElem? hp
    have mf : (marks f).length = f.ps.length := by simp [marks]
    have es : ∀ {B : Bs} {Γ : List Sk} {E : XK}, Γ[3]? = some (.im (flowD f)) → Ev B (tCall spMarks [] E (tCons (tVar 3) tNil)) Γ (marksD (marks f)) := fun h => ev_callA f (ea_cons (ev_var h) ea_nil) rfl (by omega)
    have len1 : ((marks f).take k).length = k := by rw [List.length_take]; omega
    have s1 : ∀ {B : Bs} {Γ : List Sk} {E : XK}, Γ[3]? = some (.im (flowD f)) → Γ[8]? = some (.im (.int (k : Nat))) → Ev B (tSl (rSlA K) (tCall spMarks [] E (tCons (tVar 3) tNil)) tNoPart (tPart (tVar 8))) Γ (marksD ((marks f).take k)) := fun h1 h2 => ev_eq (ev_sliceT (es h1) eo_no (eo_part (ev_var h2))) (by rw [cut_take (by omega)])
    have s2 : ∀ {B : Bs} {Γ : List Sk} {E : XK}, Γ[3]? = some (.im (flowD f)) → Γ[8]? = some (.im (.int (k : Nat))) → Ev B (tSl (rSlA K) (tCall spMarks [] E (tCons (tVar 3) tNil)) (tPart (tOp (rI0 fun i j => .int (i + j)) (tVar 8) (tC (.int 1)))) tNoPart) Γ (marksD ((marks f).drop (k + 1))) := fun h1 h2 => ev_eq (ev_sliceT (es h1) (eo_part (ev_op (ev_var h2) ev_int opd_add)) eo_no) (by rw [show (k : Int) + 1 = ((k + 1 : Nat) : Int) by omega, cut_drop (by omega)])
    have s3 : ∀ {B : Bs} {Γ : List Sk}, Γ[3]? = some (.im (flowD f)) → Γ[8]? = some (.im (.int (k : Nat))) → Ev B (tOp (rI0 fun i j => .int (i + j)) (tOp (rIx K) (tOp (rIx K) (tOp (rIx K) (tVar 3) (tC (.int 1))) (tVar 8)) (tC (.int 4))) (tOp (rIx K) (tOp (rIx K) (tOp (rIx K) (tVar 3) (tC (.int 1))) (tVar 8)) (tC (.int 3)))) Γ (.int ((p.start + p.eat : Nat) : Nat)) := fun h1 h2 => ev_eq (ev_op (ev_op (ep h1 h2 hp) ev_int (opd_ixT rfl)) (ev_op (ep h1 h2 hp) ev_int (opd_ixT rfl)) opd_add) (by rw [Int.natCast_add])
    have m' : ((marks f).take k ++ [p.start + p.eat] ++ (marks f).drop (k + 1)).length = f.ps.length := by
      rw [List.length_append, List.length_append, len1, List.length_drop, mf, List.length_singleton]
      omega
    refine wp_set (ev_callA (f, (marks f).take k ++ [p.start + p.eat] ++ (marks f).drop (k + 1)) (ea_cons (ev_var rfl) (ea_cons (ev_eq (ev_op (ev_op (s1 rfl rfl) (ev_tup (ea_cons (s3 rfl rfl) ea_nil)) (opd_catT ?_)) (s2 rfl rfl) (opd_catT ?_)) ?_) ea_nil)) rfl (by exact ⟨m', by dsimp only; omega⟩)) ?_
    · rw [List.length_map, len1]
      show k + 1 ≤ _
      omega
    · rw [List.length_append, List.length_map, List.length_map, len1, List.length_drop]
      show k + 1 + _ ≤ _
      omega
    · show PyData.tuple _ = PyData.tuple _
      unfold natsD
      rw [List.map_append, List.map_append]
      rfl
    · refine ⟨withStart f ((marks f).take k ++ [p.start + p.eat] ++ (marks f).drop (k + 1)), _, _, _, _, _, by rw [er]; rfl, lk.trans (with_like m'), fun q hq => ?_⟩
      obtain ⟨j, hj, ej⟩ := List.mem_iff_getElem.mp hq
      obtain ⟨q0, x, h1, h2, h3⟩ := with_start (i := j) (by rw [List.getElem?_eq_getElem hj, ej])
      rw [h3]
      show x ≤ _
      have hx := List.mem_of_getElem? h2
      have bd : ∀ y ∈ marks f, y ≤ 5 + 8 * i := fun y hy => by
        unfold marks at hy
        obtain ⟨q, hq, e⟩ := List.mem_map.mp hy
        rw [← e]
        exact st q hq
      rcases List.mem_append.mp hx with z | z
      · rcases List.mem_append.mp z with z | z
        · have := bd x (List.mem_of_mem_take z)
          omega
        · have : x = p.start + p.eat := by simpa using z
          have := st p pm
          have := (dr.rate p pm).2
          omega
      · have := bd x (List.mem_of_mem_drop z)
        omega
  · subst e
    have dr := lk.drawn d0
    have er := lk.rndL c
    rw [← er]
    have ps4 := dr.len
    have st : ∀ p ∈ f.ps, p.start ≤ 325 := st
    refine wp_seq (wp_if (Pb := fun b => b = false → Live f c) (etp_test (evp_op (evp_op (ev_callA (f, rndL f c) (ea_cons (ev_var rfl) (ea_cons (ev_var rfl) ea_nil)) rfl dr.toGood.runOk) (fun _ _ => ev_int) (P := fun d => ∃ w m, Full f (rndL f c) w m ∧ d = .list (natsD (cnt f.n w))) fun da db ⟨w, m, h, e⟩ e2 => ?_) (fun _ _ => ev_var rfl) (P := fun d => ∃ b, d = .bool b ∧ (b = false → Live f c)) fun da db ⟨w, m, h, e⟩ e2 => ?_) fun d h => h) (fun _ => ?_) (fun l => wp_next ?_))
    · subst e e2
      exact opd_mono (opd_ixT rfl) fun d e => ⟨w, m, h, e⟩
    · subst e e2
      refine opd_mono (opd_ne (pl_nats _) (pl_nats _) (by decide) (by decide)) fun d e => ⟨_, e, fun z => live_full h ?_⟩
      rw [eqv_nats] at z
      simpa using z
    · have ml : (f.ps.map fun p => p.eat * rnd f c p.other).length = f.ps.length := by simp
      refine wp_set (ev_callA (f, f.ps.map fun p => p.eat * rnd f c p.other) (ea_cons (ev_var rfl) (ea_cons (ev_cb (ea_cons (ev_lcTy (fun p => .int (p.eat * rnd f c p.other : Nat)) pipeD_inj (ev_op (ev_var rfl) ev_int (opd_ixT rfl)) (by omega) fun p hp => ⟨_, bn_name (by simp), ev_eq (ev_op (ev_op (ev_var rfl) ev_int (opd_ixT rfl)) (ev_ixN (ev_var rfl) (ev_op (ev_var rfl) ev_int (opd_ixT rfl)) (rndL_get (dr.ends p hp).2)) (opd_mul (sm_nat (by have := (dr.rate p hp).2; omega)).mul)) (by rw [Int.natCast_mul])⟩) ea_nil) cd_tuple) ea_nil)) (by show [_, PyData.tuple _] = [_, PyData.tuple (natsD _)]; unfold natsD; rw [List.map_map]; rfl) (by exact ⟨ml, by dsimp only; omega⟩)) ?_
      have lk2 := with_like ml
      have st2 : ∀ p ∈ (withStart f (f.ps.map fun p => p.eat * rnd f c p.other)).ps, p.start = p.eat * rnd f c p.other := fun q hq => by
        obtain ⟨j, hj, ej⟩ := List.mem_iff_getElem.mp hq
        obtain ⟨q0, x, h1, h2, h3⟩ := with_start (i := j) (by rw [List.getElem?_eq_getElem hj, ej])
        rw [List.getElem?_map, h1] at h2
        rw [h3, ← Option.some.inj h2]
      have dr2 := lk2.drawn dr
      refine wp_retD (ev_var rfl) ⟨_, c, rfl, dr2.fine (fun p hp => ?_) (rich_live fun p hp => ?_)⟩
      · rw [st2 p hp]
        have h1 := (dr2.rate p hp).2.2
        have h2 := (rnd_bd dr.toGood (show p.other < f.n from (dr2.ends p hp).2)).2
        have := Nat.mul_le_mul h1 h2
        omega
      · rw [st2 p hp, lk2.rnd]
    · exact wp_retD (ev_var rfl) ⟨f, c, rfl, dr.fine (fun p hp => by have := st p hp; omega) (l rfl)⟩
end
end Dl
set_option Elab.async false
set_option linter.all false
set_option maxRecDepth 100000
set_option maxHeartbeats 1000000
/-! Walks 22: the law's needs. -/
namespace Dl
open PySem PySem.Spec PyProof.Rows L2 C8 Rf
theorem ceil_floor {x g : Int} (hg : 0 < g) : -((-x) / g) - 1 = (x - 1) / g := by
  have h1 := Int.mul_ediv_add_emod (x - 1) g
  have h2 := Int.emod_nonneg (x - 1) (show g ≠ 0 by omega)
  have h3 := Int.emod_lt_of_pos (x - 1) hg
  generalize (x - 1) / g = q at *
  have h4 : (-x) / g = -q - 1 := by
    have a : -q - 1 ≤ (-x) / g := by
      rw [Int.le_ediv_iff_mul_le hg, Int.sub_mul, Int.neg_mul, Int.mul_comm q]
      omega
    have b : (-x) / g < -q := by
      refine Int.ediv_lt_of_lt_mul hg ?_
      rw [Int.neg_mul, Int.mul_comm q]
      omega
    omega
  omega
theorem flat_get {α : Type} {h : Nat → α} {g : Nat} (hg : 0 < g) : ∀ (n i : Nat), i < n * g → ((List.range n).flatMap fun j => List.replicate g (h j))[i]? = some (h (i / g))
  | 0, i, hi => by simp at hi
  | n + 1, i, hi => by
    have len : ((List.range n).flatMap fun j => List.replicate g (h j)).length = n * g := by
      clear hi
      induction n with
      | zero => simp
      | succ n ih => rw [List.range_succ, List.flatMap_append, List.length_append, ih, Nat.add_mul]; simp
    rw [List.range_succ, List.flatMap_append]
    by_cases hl : i < n * g
    · rw [List.getElem?_append_left (by rw [len]; exact hl)]
      exact flat_get hg n i hl
    · rw [List.getElem?_append_right (by rw [len]; omega), len]
      have e : i / g = n := by
        rw [Nat.add_mul, Nat.one_mul] at hi
        have a : n ≤ i / g := (Nat.le_div_iff_mul_le hg).mpr (by omega)
        have b : i / g < n + 1 := (Nat.div_lt_iff_lt_mul hg).mpr (by rw [Nat.add_mul]; omega)
        omega
      rw [e]
      simp only [List.flatMap_cons, List.flatMap_nil, List.append_nil]
      rw [List.getElem?_replicate, if_pos (by rw [Nat.add_mul] at hi; omega)]
theorem flat_len {α : Type} {h : Nat → α} {g : Nat} (n : Nat) : ((List.range n).flatMap fun j => List.replicate g (h j)).length = n * g := by
  induction n with
  | zero => simp
  | succ n ih => rw [List.range_succ, List.flatMap_append, List.length_append, ih, Nat.add_mul]; simp
abbrev lotD (o r j : Nat) : PyData := .tuple [.int (o : Nat), .int ((j % r : Nat) : Nat), .int ((j / r : Nat) : Nat)]
/-- what the law reads off the tokens is what the program computes -/
theorem needs_same {f : Flow} {c : Nat → Nat} (G : Good f c) {p : Pipe} (hp : p ∈ f.ps) {k ago : Nat} (hk : k < rnd f c p.other) (hs : p.start ≤ ago * rnd f c p.one * p.give) (hm : ago = 0 ∨ (ago - 1) * rnd f c p.one * p.give < p.start) :
    ∃ i : Nat, ((i : Nat) : Int) = ((ago : Int) * (rnd f c p.one : Nat) * (p.give : Nat) - (p.start : Nat)) + ((k : Int) + 1) * (p.eat : Nat) - 1 ∧ i < rnd f c p.one * 40 * p.give ∧
      PyData.tuple [.tuple [.int (p.one : Nat), .int ((i / p.give % rnd f c p.one : Nat) : Nat)], .tuple [.int (p.other : Nat), .int (k : Nat)], .int ((ago : Int) - ((i / p.give / rnd f c p.one : Nat) : Nat))] = stepD (needS f c p k) := by
  have pe := G.ends p hp
  have r1 := rnd_bd G pe.1
  have r2 := rnd_bd G pe.2
  obtain ⟨g1, e1⟩ := G.rate p hp
  have bal := rnd_bal G hp
  generalize hr' : rnd f c p.one = r at *
  have hrg : 1 ≤ r * p.give := Nat.mul_pos r1.1 g1.1
  have spare : ago * r * p.give - p.start < r * p.give ∨ (ago = 0 ∧ p.start = 0) := by
    rcases hm with z | z
    · right
      subst z
      simp at hs
      exact ⟨rfl, hs⟩
    · left
      have : ago ≠ 0 := fun y => by subst y; simp at z; omega
      have e : ago * r * p.give = (ago - 1) * r * p.give + r * p.give := by
        rw [← Nat.add_mul, ← Nat.succ_mul]
        congr 2
        omega
      omega
  have keat : (k + 1) * p.eat ≤ r * p.give := by
    rw [bal]
    exact Nat.mul_le_mul_right _ hk
  have kpos : 1 ≤ (k + 1) * p.eat := Nat.mul_pos (by omega) e1.1
  have spare2 : ago * r * p.give - p.start < r * p.give := by
    rcases spare with z | ⟨z, y⟩
    · exact z
    · subst z
      rw [Nat.zero_mul, Nat.zero_mul]
      omega
  refine ⟨ago * r * p.give - p.start + (k + 1) * p.eat - 1, ?_, ?_, ?_⟩
  · have a : ((ago * r * p.give : Nat) : Int) = (ago : Int) * (r : Nat) * (p.give : Nat) := by simp [Int.natCast_mul]
    have b : (((k + 1) * p.eat : Nat) : Int) = ((k : Int) + 1) * (p.eat : Nat) := by simp [Int.natCast_mul]
    rw [← a, ← b]
    omega
  · have : r * 40 * p.give = 40 * (r * p.give) := by simp [Nat.mul_assoc, Nat.mul_comm, Nat.mul_left_comm]
    omega
  · generalize hi : ago * r * p.give - p.start + (k + 1) * p.eat - 1 = i
    have hg : (0 : Int) < (p.give : Nat) := by omega
    have hr : (0 : Int) < (r : Nat) := by omega
    have hN : needN p k = ((i : Nat) : Int) / (p.give : Nat) - (ago : Int) * (r : Nat) := by
      unfold needN
      rw [fdiv_pos_eq hg]
      have b : (((k + 1) * p.eat : Nat) : Int) = ((k : Int) + 1) * (p.eat : Nat) := by simp [Int.natCast_mul]
      have a : ((ago * r * p.give : Nat) : Int) = (ago : Int) * (r : Nat) * (p.give : Nat) := by simp [Int.natCast_mul]
      rw [← b]
      have c1 := ceil_floor (x := (((k + 1) * p.eat : Nat) : Int) - (p.start : Nat)) hg
      rw [show -((((k + 1) * p.eat : Nat) : Int) - (p.start : Nat)) = (p.start : Int) - (((k + 1) * p.eat : Nat) : Int) by omega] at c1
      rw [c1]
      have e : ((i : Nat) : Int) = ((((k + 1) * p.eat : Nat) : Int) - (p.start : Nat) - 1) + (ago : Int) * (r : Nat) * (p.give : Nat) := by
        rw [← a]
        omega
      rw [e, Int.add_mul_ediv_right _ _ (by omega)]
      omega
    have ei : ((i / p.give : Nat) : Int) = needN p k + (ago : Int) * (r : Nat) := by
      rw [hN, Int.natCast_ediv]
      omega
    have em : ((i / p.give % r : Nat) : Int) = (needN p k) % (r : Nat) := by
      rw [Int.natCast_emod, ei, Int.add_mul_emod_self_right]
    have ed : ((i / p.give / r : Nat) : Int) = (needN p k) / (r : Nat) + ago := by
      rw [Int.natCast_ediv, ei, Int.add_mul_ediv_right _ _ (by omega)]
    show _ = PyData.tuple [.tuple [.int (p.one : Nat), .int (((needN p k).fmod (rnd f c p.one : Nat)).toNat : Nat)], _, .int (-((needN p k).fdiv (rnd f c p.one : Nat)))]
    have md := Int.emod_nonneg (needN p k) (show ((r : Nat) : Int) ≠ 0 by omega)
    rw [hr', fdiv_pos_eq hr, fmod_pos_eq hr, Int.toNat_of_nonneg md, em, ed, show (ago : Int) - (needN p k / (r : Nat) + ago) = -(needN p k / (r : Nat)) by omega]
    rfl
theorem rep_one {α : Type} (n : Nat) (x : α) : (List.replicate n [x]).flatten = List.replicate n x := by
  induction n with
  | zero => rfl
  | succ n ih => rw [List.replicate_succ, List.flatten_cons, ih]; rfl
section
variable {P : Program} {w : World} {K : PySem.W.Frag} {mg : PySem.Str → Option Value} {base : Heap}
theorem sc__law_needs : FnScope ["_law_flow_here", "_law_counts", "_law_found", "_law_one", "_law_other", "_law_give", "_law_eat", "_law_start", "_law_lots", "_law_k", "_law_ago", "_law_spare", "_law_last"] ["_law_flow_here"] (defScope s_law_needs) := ⟨rfl, rfl, rfl, by decide +kernel, rfl, by decide +kernel, by decide +kernel⟩
abbrev spLNeeds : Sp := spA eFC (fun x => Fine x.1 x.2) NeedsPost
theorem ok__law_needs (T : Tx mg) (F : Df K mg "_law_needs" s_law_needs) (c__law_round : Cal P w K mg base 3 "_law_round" spReps []) : Cal P w K mg base 4 "_law_needs" spLNeeds [] := by
  refine calA _ _ _ F sc__law_needs rfl (by decide) (fun _ => rfl) (fun _ _ _ _ _ _ us hl => match us, hl with | [_], _ => rfl) fun f cdv A outer s H E hr => ⟨_,
    (pss_cons (ps_par (i := 1) (j := 2) (by rfl) sc__law_needs.nd rfl rfl (by decide) rfl rfl (pa_cons (pe_c c__law_round hr (by decide) (by rfl) (pa_cons (pv 0) pa_nil)) (pa_cons pe_dnewN pa_nil)) (by rfl))
      (pss_cons (ps_for PassesOwn.never rfl (pi_tup (pe_ix ix_seq (pv 0) pe_int (fun _ _ => rfl))) (pg_tup rfl (pgs_cons (pg_name (i := 3) sc__law_needs.nd rfl (.inl rfl)) (pgs_cons (pg_name (i := 4) sc__law_needs.nd rfl (.inl rfl)) (pgs_cons (pg_name (i := 5) sc__law_needs.nd rfl (.inl rfl)) (pgs_cons (pg_name (i := 6) sc__law_needs.nd rfl (.inl rfl)) (pgs_cons (pg_name (i := 7) sc__law_needs.nd rfl (.inl rfl)) pgs_nil)))))) (pss_cons (ps_set (i := 8) sc__law_needs.nd rfl (.inl rfl) (pe_lst pa_nil))
      (pss_cons (ps_for PassesOwn.never rfl (pi_range1 (by rfl) T.m_range (pa_cons (pe_op op_mul (pe_ix ix_seq (pv 1) (pv 3) (fun _ _ => rfl)) pe_int) pa_nil)) (pg_name (i := 9) sc__law_needs.nd rfl (.inl rfl)) (pss_one (ps_set (i := 8) sc__law_needs.nd rfl (.inl rfl) (pe_op op_cat (pv 8) (pe_op op_rep (pe_lst (pa_cons (pe_tup (pa_cons (pv 3) (pa_cons (pe_op op_modN (pv 9) (pe_ix ix_seq (pv 1) (pv 3) (fun _ _ => rfl))) (pa_cons (pe_op op_fdivN (pv 9) (pe_ix ix_seq (pv 1) (pv 3) (fun _ _ => rfl))) pa_nil)))) pa_nil)) (pv 5))))))
      (pss_cons (ps_set (i := 10) sc__law_needs.nd rfl (.inl rfl) pe_int)
      (pss_cons (ps_while PassesOwn.never (pt_cmpR op_lt (pe_op op_mul (pe_op op_mul (pv 10) (pe_ix ix_seq (pv 1) (pv 3) (fun _ _ => rfl))) (pv 5)) (pv 7) (nomark _)) (pss_one (ps_set (i := 10) sc__law_needs.nd rfl (.inl rfl) (pe_op op_add (pv 10) pe_int))))
      (pss_cons (ps_set (i := 11) sc__law_needs.nd rfl (.inl rfl) (pe_op op_sub (pe_op op_mul (pe_op op_mul (pv 10) (pe_ix ix_seq (pv 1) (pv 3) (fun _ _ => rfl))) (pv 5)) (pv 7)))
      (pss_one (ps_for PassesOwn.never rfl (pi_range1 (by rfl) T.m_range (pa_cons (pe_ix ix_seq (pv 1) (pv 4) (fun _ _ => rfl)) pa_nil)) (pg_name (i := 9) sc__law_needs.nd rfl (.inl rfl)) (pss_cons (ps_set (i := 12) sc__law_needs.nd rfl (.inl rfl) (pe_ix ix_seq (pv 8) (pe_op op_sub (pe_op op_add (pv 11) (pe_op op_mul (pe_op op_add (pv 9) pe_int) (pv 6))) pe_int) (fun _ _ => rfl)))
      (pss_one (ps_asg pe_bl (pg_sub (pv 2) (pe_tup (pa_cons (pe_slice sl_tupA (pv 12) po_none (po_some pe_int)) (pa_cons (pe_tup (pa_cons (pv 4) (pa_cons (pv 9) pa_nil))) (pa_cons (pe_op op_sub (pv 10) (pe_ix ix_seq (pv 12) pe_int (fun _ _ => rfl))) pa_nil)))) (set_dn (hu65 hr))))))))))))))
      (pss_one (ps_ret (pe_sortKeys hr (pv 2) (by rfl) T.m_sorted))))), fun F0 x hx => ?_⟩
  obtain ⟨f, c⟩ := x
  have FF : Fine f c := hx
  clear hx
  have G := FF.toGood
  have h4 := FF.ok.len
  have h1 := G.n
  show Wp _ _ ([.im (flowD f)] ++ List.replicate _ .un) _
  refine wp_seq (wp_par (Ps := fun ss => ss = [.im (.list (natsD (rndL f c))), .dn []]) (es_cons (evs_d (ev_callA (f, c) (ea_cons (ev_var rfl) ea_nil) rfl G)) (es_cons (evs_dn (B := ⟨P, w, K, [], F0, H⟩)) esp_nil)) fun ss e => ⟨_, _, e, ?_⟩)
  refine wp_seq (wp_forT (fun i Γ => ∃ L s3 s4 s5 s6 s7 s8 s9 t0 t1 t2, Γ = [.im (flowD f), .im (.list (natsD (rndL f c))), .dn (L.map keyE), s3, s4, s5, s6, s7, s8, s9, t0, t1, t2] ∧ L.Nodup ∧ (∀ s, s ∈ L ↔ ∃ p ∈ f.ps.take i, ∃ k, k < rnd f c p.other ∧ s = needS f c p k) ∧ L.length ≤ 4 * i) (ev_op (ev_var rfl) ev_int (opd_ixT rfl))
    ⟨[], _, _, _, _, _, _, _, _, _, _, rfl, List.nodup_nil, fun s => ⟨fun z => (nomatch z), fun ⟨p, hp, _⟩ => by rw [List.take_zero] at hp; cases hp⟩, Nat.le_refl _⟩ (fun i d Γ' hd ⟨L, s3, s4, s5, s6, s7, s8, s9, t0, t1, t2, e, nd, me, ll⟩ => ?_) (fun Γ' ⟨L, s3, s4, s5, s6, s7, s8, s9, t0, t1, t2, e, nd, me, ll⟩ => ?_))
  · subst e
    obtain ⟨p, hp, rfl⟩ := map_get hd
    have pm := List.mem_of_getElem? hp
    have pe := G.ends p pm
    obtain ⟨⟨g1, g2⟩, e1, e2⟩ := G.rate p pm
    have st := (FF.ok.ok p pm).start
    have il := (List.getElem?_eq_some_iff.mp hp).1
    have r1 := rnd_bd G pe.1
    have r2 := rnd_bd G pe.2
    refine tg_tup rfl (bts_name (bts_name (bts_name (bts_name (bts_name (bts_nil ?_))))))
    refine wp_seq (wp_set (ev_lst ea_nil) ?_)
    refine wp_seq (wp_forR1 (n := ((rnd f c p.one : Nat) : Int) * 40) (Pn := fun _ => True) (fun j Γ => ∃ s9, Γ = [.im (flowD f), .im (.list (natsD (rndL f c))), .dn (L.map keyE), .im (.int (p.one : Nat)), .im (.int (p.other : Nat)), .im (.int (p.give : Nat)), .im (.int (p.eat : Nat)), .im (.int (p.start : Nat)), .im (.list ((List.range j).flatMap fun j => List.replicate p.give (lotD p.one (rnd f c p.one) j))), s9, t0, t1, t2])
      (ea_cons (ev_op (ev_ixN (ev_var rfl) (ev_var rfl) (rndL_get pe.1)) ev_int (opd_mul (sm_nat (by omega)).mul)) ea_nil) (by omega) ⟨_, rfl⟩ (fun j Γ' hj ⟨s9, e⟩ => ?_) (fun Γ' ⟨s9, e⟩ => ?_))
    · subst e
      have ej : (j : Int).fmod (rnd f c p.one : Nat) = ((j % rnd f c p.one : Nat) : Int) := by rw [fmod_pos_eq (by omega), Int.natCast_emod]
      have fl : ((List.range j).flatMap fun j => List.replicate p.give (lotD p.one (rnd f c p.one) j)).length = j * p.give := flat_len j
      have jg : j * p.give ≤ 160 * 8 := Nat.mul_le_mul (by omega) g2
      refine tg_name (wp_set (d := .list ((List.range (j + 1)).flatMap fun j => List.replicate p.give (lotD p.one (rnd f c p.one) j))) (ev_eq (ev_op (ev_var rfl) (ev_eq (ev_op (ev_lst (ea_cons (ev_tup (ea_cons (ev_var rfl) (ea_cons (ev_op (ev_var rfl) (ev_ixN (ev_var rfl) (ev_var rfl) (rndL_get pe.1)) (opd_mod (by omega))) (ea_cons (ev_op (ev_var rfl) (ev_ixN (ev_var rfl) (ev_var rfl) (rndL_get pe.1)) (opd_fdiv ⟨by omega, by omega⟩)) ea_nil)))) ea_nil)) (ev_var rfl) (opd_rep (by omega) (by omega) (by show 1 * _ ≤ _; omega))) (d' := .list (List.replicate p.give (lotD p.one (rnd f c p.one) j))) (by rw [Int.toNat_natCast, rep_one, ej, fdiv_nat])) (opd_cat (by rw [fl, List.length_replicate]; omega))) (by rw [List.range_succ, List.flatMap_append]; simp)) ⟨_, rfl⟩)
    · subst e
      rw [show (((rnd f c p.one : Nat) : Int) * 40).toNat = rnd f c p.one * 40 by omega]
      refine wp_seq (wp_set ev_int ?_)
      have rg : 1 ≤ rnd f c p.one * p.give := Nat.mul_pos r1.1 g1
      have ec : ∀ {a : Nat}, ((a : Int) * (rnd f c p.one : Nat)) * (p.give : Nat) = ((a * rnd f c p.one * p.give : Nat) : Int) := by intro a; simp [Int.natCast_mul]
      refine wp_seq (wp_while (fun m Γ => ∃ ago : Nat, Γ = [.im (flowD f), .im (.list (natsD (rndL f c))), .dn (L.map keyE), .im (.int (p.one : Nat)), .im (.int (p.other : Nat)), .im (.int (p.give : Nat)), .im (.int (p.eat : Nat)), .im (.int (p.start : Nat)), .im (.list ((List.range (rnd f c p.one * 40)).flatMap fun j => List.replicate p.give (lotD p.one (rnd f c p.one) j))), s9, .im (.int (ago : Nat)), t1, t2] ∧ (ago = 0 ∨ (ago - 1) * rnd f c p.one * p.give < p.start) ∧ m = p.start - ago ∧ ago ≤ 401) p.start ⟨0, rfl, .inl rfl, rfl, by omega⟩ ?_)
      rintro m Γ' ⟨ago, rfl, hm, rfl, ha⟩
      refine ⟨fun b => b = decide (ago * rnd f c p.one * p.give < p.start), et_eq (et_test (ev_op (ev_op (ev_op (ev_var rfl) (ev_ixN (ev_var rfl) (ev_var rfl) (rndL_get pe.1)) (opd_mul (sm_nat (by omega)).mul)) (ev_var rfl) (opd_mul (.inr ⟨by omega, by omega⟩))) (ev_var rfl) opd_lt)) (by rw [ec]; exact decide_eq_decide.mpr (by omega)), fun e => ?_, fun e => ?_⟩
      · have lt := of_decide_eq_true e.symm
        have al : ago ≤ ago * rnd f c p.one * p.give := by
          rw [Nat.mul_assoc]
          exact Nat.le_mul_of_pos_right _ rg
        refine wp_set (ev_op (ev_var rfl) ev_int opd_add) ⟨p.start - (ago + 1), by omega, ago + 1, rfl, .inr (by rw [Nat.add_sub_cancel]; exact lt), rfl, by omega⟩
      · have ge := of_decide_eq_false e.symm
        have ns := fun {k : Nat} (hk : k < rnd f c p.other) => needs_same G pm (k := k) (ago := ago) hk (by omega) hm
        refine wp_seq (wp_set (ev_op (ev_op (ev_op (ev_var rfl) (ev_ixN (ev_var rfl) (ev_var rfl) (rndL_get pe.1)) (opd_mul (sm_nat (by omega)).mul)) (ev_var rfl) (opd_mul (.inr ⟨by omega, by omega⟩))) (ev_var rfl) opd_sub) ?_)
        refine wp_forR1 (n := (rnd f c p.other : Nat)) (Pn := fun _ => True) (fun j Γ => ∃ L s9 t2, Γ = [.im (flowD f), .im (.list (natsD (rndL f c))), .dn (L.map keyE), .im (.int (p.one : Nat)), .im (.int (p.other : Nat)), .im (.int (p.give : Nat)), .im (.int (p.eat : Nat)), .im (.int (p.start : Nat)), .im (.list ((List.range (rnd f c p.one * 40)).flatMap fun j => List.replicate p.give (lotD p.one (rnd f c p.one) j))), s9, .im (.int (ago : Nat)), .im (.int ((ago : Int) * (rnd f c p.one : Nat) * (p.give : Nat) - (p.start : Nat))), t2] ∧ L.Nodup ∧ (∀ s, s ∈ L ↔ (∃ p ∈ f.ps.take i, ∃ k, k < rnd f c p.other ∧ s = needS f c p k) ∨ ∃ k, k < j ∧ s = needS f c p k) ∧ L.length ≤ 4 * i + j)
          (ea_cons (ev_ixN (ev_var rfl) (ev_var rfl) (rndL_get pe.2)) ea_nil) (by omega) ⟨L, _, _, rfl, nd, fun s => by rw [me]; exact ⟨.inl, fun z => z.elim id fun ⟨k, hk, _⟩ => absurd hk (Nat.not_lt_zero k)⟩, by omega⟩ (fun j Γ' hj ⟨L, s9, t2, e, nd, me, ll⟩ => ?_) (fun Γ' ⟨L, s9, t2, e, nd, me, ll⟩ => ?_)
        · subst e
          have hj : j < rnd f c p.other := by omega
          obtain ⟨ix, hix, ilt, heq⟩ := ns hj
          have hget := flat_get (h := lotD p.one (rnd f c p.one)) (show 0 < p.give by omega) (rnd f c p.one * 40) ix ilt
          obtain ⟨L', e', nd', me', ll'⟩ := nput_step L (needS f c p j) nd
          have sl : ∀ {B : Bs} {Γ : List Sk} {q : Nat}, Γ[12]? = some (.im (lotD p.one (rnd f c p.one) q)) → Ev B (tSl (rSlA K) (tVar 12) tNoPart (tPart (tC (.int 2)))) Γ (.tuple [.int (p.one : Nat), .int ((q % rnd f c p.one : Nat) : Nat)]) := fun h => ev_sliceT (ev_var h) eo_no (eo_part ev_int)
          refine tg_name (wp_seq (wp_set (d := lotD p.one (rnd f c p.one) (ix / p.give)) (ev_op (ev_var rfl) (ev_eq (ev_op (ev_op (ev_var rfl) (ev_op (ev_op (ev_var rfl) ev_int opd_add) (ev_var rfl) (opd_mul (.inr ⟨by omega, by omega⟩))) opd_add) ev_int opd_sub) (d' := .int (ix : Nat)) (by rw [hix])) (opd_ixL (atI_nat hget))) ?_))
          refine wp_asgG ev_bl fun d e => ?_
          subst e
          refine tg_sub (i := 2) (kd := stepD (needS f c p j)) (s' := .dn (L'.map keyE)) rfl rfl rfl (ev_eq (ev_tup (ea_cons (sl rfl) (ea_cons (ev_tup (ea_cons (ev_var rfl) (ea_cons (ev_var rfl) ea_nil))) (ea_cons (ev_op (ev_var rfl) (ev_op (ev_var rfl) ev_int (opd_ixT rfl)) opd_sub) ea_nil)))) heq) (by rw [← e']; exact sd_dn (by rw [List.length_map]; omega) rfl ⟨_, rfl⟩ fun q hq => by obtain ⟨s, _, rfl⟩ := List.mem_map.mp hq; rfl) ⟨L', _, _, rfl, nd', fun s => ?_, by omega⟩
          rw [me', me]
          constructor
          · rintro ((h | ⟨k, hk, e⟩) | e)
            · exact .inl h
            · exact .inr ⟨k, by omega, e⟩
            · exact .inr ⟨j, by omega, e⟩
          · rintro (h | ⟨k, hk, e⟩)
            · exact .inl (.inl h)
            · by_cases z : k = j
              · rw [z] at e; exact .inr e
              · exact .inl (.inr ⟨k, by omega, e⟩)
        · subst e
          rw [Int.toNat_natCast] at me ll
          refine ⟨L, _, _, _, _, _, _, _, _, _, _, rfl, nd, fun s => ?_, by omega⟩
          rw [me, List.take_add_one, hp]
          constructor
          · rintro (⟨q, hq, h⟩ | ⟨k, hk, e⟩)
            · exact ⟨q, List.mem_append_left _ hq, h⟩
            · exact ⟨p, by simp, k, hk, e⟩
          · rintro ⟨q, hq, k, hk, e9⟩
            rcases List.mem_append.mp hq with z | z
            · exact .inl ⟨q, z, k, hk, e9⟩
            · have : q = p := by simpa using z
              subst this
              exact .inr ⟨k, hk, e9⟩
  · subst e
    rw [List.length_map] at me ll
    rw [List.take_length] at me
    refine wp_ret (evp_sortK (i := 2) (kvs := L.map keyE) rfl ?_ (by rw [List.length_map]; omega)) fun d ⟨es, e, pm⟩ => ?_
    · rw [List.map_map]
      exact srt_steps L
    · rw [List.map_map] at pm
      obtain ⟨L', pm', e'⟩ := unperm pm L rfl
      exact ⟨L', by rw [e, e']; rfl, fun s => by rw [pm'.mem_iff, me]; rfl, by rw [pm'.length_eq]; omega⟩
end
end Dl
set_option Elab.async false
set_option linter.all false
set_option maxRecDepth 100000
set_option maxHeartbeats 1000000
/-! Walks 23: alike. -/
namespace Dl
open PySem PySem.Spec PyProof.Rows L2 C8 Rf
theorem kit_it : kitB "int" "tuple" = some false := by decide +kernel
theorem kit_il : kitB "int" "list" = some false := by decide +kernel
theorem kit_is : kitB "int" "str" = some false := by decide +kernel
theorem kit_tl : kitB "tuple" "list" = some false := by decide +kernel
section
variable {P : Program} {w : World} {K : PySem.W.Frag} {mg : PySem.Str → Option Value} {base : Heap}
theorem sc__law_alike : FnScope ["_law_found", "_law_due", "_law_k"] ["_law_found", "_law_due"] (defScope s_law_alike) := ⟨rfl, rfl, rfl, by decide +kernel, rfl, by decide +kernel, by decide +kernel⟩
abbrev spNever : Sp := fun _ _ _ _ => False
theorem ok_alike0 (F : Df K mg "_law_alike" s_law_alike) : Cal P w K mg base 1 "_law_alike" spNever [] := by
  obtain ⟨f, fd, F, hm⟩ := F
  exact ⟨f, fd, _, [], F.ok sc__law_alike (fun _ _ _ _ h => h.elim) (fun _ _ _ _ _ _ _ _ _ h => h.elim), hm, F.kp, F.bindsN (fun _ _ _ _ _ _ us hl => match us, hl with | [_, _], _ => rfl), .nil⟩
abbrev spAlI : Sp := spA (fun x : Int × Int => [.int x.1, .int x.2]) (fun _ => True) (fun x r => r = .bool (decide (x.1 = x.2)))
theorem ok_alikeI (T : Tx mg) (F : Df K mg "_law_alike" s_law_alike) (c__law_alike : Cal P w K mg base 1 "_law_alike" spNever []) : Cal P w K mg base 2 "_law_alike" spAlI [] := by
  refine calA _ _ _ F sc__law_alike rfl (by decide) (fun _ => rfl) (fun _ _ _ _ _ _ us hl => match us, hl with | [_, _], _ => rfl) fun f cdv A outer s H E hr => ⟨_,
    (pss_cons (ps_if (pt_val (pe_callB call_isiT (by rfl) T.m_isinstance (by decide +kernel) (pa_cons (pv 1) (pa_cons (pe_tup (pa_cons (pe_bltn (v := .ty "tuple") (by rfl) T.m_tuple (by decide +kernel) rfl) (pa_cons (pe_bltn (v := .ty "list") (by rfl) T.m_list (by decide +kernel) rfl) pa_nil))) pa_nil)))) (pss_cons (ps_if (PW.pt (pw_or (pt_not (pt_val (pe_callB call_isiT (by rfl) T.m_isinstance (by decide +kernel) (pa_cons (pv 0) (pa_cons (pe_tup (pa_cons (pe_bltn (v := .ty "tuple") (by rfl) T.m_tuple (by decide +kernel) rfl) (pa_cons (pe_bltn (v := .ty "list") (by rfl) T.m_list (by decide +kernel) rfl) pa_nil))) pa_nil))))) (pw_or1 (pt_cmpR (op_neD (hu64 hr)) (pe_callB call_isi (by rfl) T.m_isinstance (by decide +kernel) (pa_cons (pv 0) (pa_cons (pe_bltn (v := .ty "list") (by rfl) T.m_list (by decide +kernel) rfl) pa_nil))) (pe_callB call_isi (by rfl) T.m_isinstance (by decide +kernel) (pa_cons (pv 1) (pa_cons (pe_bltn (v := .ty "list") (by rfl) T.m_list (by decide +kernel) rfl) pa_nil))) (nomark _))))) (pss_one (ps_ret pe_bl)) pss_nil)
      (pss_cons (ps_if (pt_cmpR (op_neD (hu64 hr)) (pe_callB call_len_seq (by rfl) T.m_len PySem.boot_len (pa_cons (pv 0) pa_nil)) (pe_callB call_len_seq (by rfl) T.m_len PySem.boot_len (pa_cons (pv 1) pa_nil)) (nomark _)) (pss_one (ps_ret pe_bl)) pss_nil)
      (pss_one (ps_ret (pe_cmpR (op_eqD (hu64 hr)) (pe_lc (own := [("_law_k", 2)]) (g := (gName 2)) rfl sc__law_alike.nd (pi_range1 (by rfl) T.m_range (pa_cons (pe_callB call_len_seq (by rfl) T.m_len PySem.boot_len (pa_cons (pv 1) pa_nil)) pa_nil)) (blkOk_by (own := [("_law_k", 2)]) (N := ["_law_found", "_law_due", "_law_k"]) (sc := defScope s_law_alike) (by decide +kernel)) (fun _ _ _ _ _ => (pg_name (i := 2) sc__law_alike.nd rfl (.inl rfl))) (fun _ _ _ _ _ => (pts_one (pt_not (pt_val (pe_c c__law_alike hr (by decide) (by rfl) (pa_cons (pe_ix (ix_seqK (K := K) rfl) (pv 0) (pv 2) (fun _ _ => rfl)) (pa_cons (pe_ix (ix_seqK (K := K) rfl) (pv 1) (pv 2) (fun _ _ => rfl)) pa_nil))))))) (fun _ _ _ _ _ => (pv 2))) (pe_lst pa_nil) (nomark _)))))) pss_nil)
      (pss_cons (ps_if (PW.pt (pw_or (pt_cmpR op_isN (pv 1) pe_non (nomark _)) (pw_or1 (pt_val (pe_callB call_isi (by rfl) T.m_isinstance (by decide +kernel) (pa_cons (pv 1) (pa_cons (pe_bltn (v := .ty "str") (by rfl) T.m_str (by decide +kernel) rfl) pa_nil))))))) (pss_one (ps_ret (pe_and (pe_cmpR (op_eqD (hu64 hr)) (pv 0) (pv 1) (nomark _)) (pe_one (pe_cmpR (op_eqD (hu64 hr)) (pe_callB call_isi (by rfl) T.m_isinstance (by decide +kernel) (pa_cons (pv 0) (pa_cons (pe_bltn (v := .ty "str") (by rfl) T.m_str (by decide +kernel) rfl) pa_nil))) (pe_callB call_isi (by rfl) T.m_isinstance (by decide +kernel) (pa_cons (pv 1) (pa_cons (pe_bltn (v := .ty "str") (by rfl) T.m_str (by decide +kernel) rfl) pa_nil))) (nomark _)))))) pss_nil)
      (pss_one (ps_ret (pe_and (pe_callB call_isi (by rfl) T.m_isinstance (by decide +kernel) (pa_cons (pv 0) (pa_cons (pe_bltn (v := .ty "int") (by rfl) T.m_int (by decide +kernel) rfl) pa_nil))) (pe_and (pe_cmpR (op_eqD (hu64 hr)) (pe_callB call_isi (by rfl) T.m_isinstance (by decide +kernel) (pa_cons (pv 0) (pa_cons (pe_bltn (v := .ty "bool") (by rfl) T.m_bool (by decide +kernel) rfl) pa_nil))) (pe_callB call_isi (by rfl) T.m_isinstance (by decide +kernel) (pa_cons (pv 1) (pa_cons (pe_bltn (v := .ty "bool") (by rfl) T.m_bool (by decide +kernel) rfl) pa_nil))) (nomark _)) (pe_one (pe_cmpR (op_eqD (hu64 hr)) (pv 0) (pv 1) (nomark _))))))))), fun F0 x hx => ?_⟩
  obtain ⟨i, j⟩ := x
  refine wp_seq (wp_noE (et_B (ev_isi2 (ev_var rfl) kit_it kit_il rfl)) rfl (wp_next ?_))
  refine wp_seq (wp_noE (et_or (et_test (ev_op (ev_var rfl) ev_non (opd_isN rfl))) fun _ => et_B (ev_isi (ev_var rfl) kit_is)) rfl (wp_next ?_))
  refine wp_retD (ev_andV (ev_isi (ev_var rfl) kit_ii) fun _ => ev_andV (ev_op (ev_isi (ev_var rfl) kit_ib) (ev_isi (ev_var rfl) kit_ib) (opd_eq (n := 1) (m := 1) rfl rfl (by decide) (by decide))) fun _ => ev_op (ev_var rfl) (ev_var rfl) (opd_eq (n := 1) (m := 1) rfl rfl (by decide) (by decide))) ?_
  show _ = PyData.bool (decide (i = j))
  rw [eqv_int]
  rfl
abbrev spAlP : Sp := spA (fun x : (Int × Int) × (Int × Int) => [pI x.1, pI x.2]) (fun x => x.1 = x.2) (fun x r => r = .bool true)
theorem ok_alikeP (T : Tx mg) (F : Df K mg "_law_alike" s_law_alike) (c__law_alike : Cal P w K mg base 2 "_law_alike" spAlI []) : Cal P w K mg base 3 "_law_alike" spAlP [] := by
  refine calA _ _ _ F sc__law_alike rfl (by decide) (fun _ => rfl) (fun _ _ _ _ _ _ us hl => match us, hl with | [_, _], _ => rfl) fun f cdv A outer s H E hr => ⟨_,
    (pss_cons (ps_if (pt_val (pe_callB call_isiT (by rfl) T.m_isinstance (by decide +kernel) (pa_cons (pv 1) (pa_cons (pe_tup (pa_cons (pe_bltn (v := .ty "tuple") (by rfl) T.m_tuple (by decide +kernel) rfl) (pa_cons (pe_bltn (v := .ty "list") (by rfl) T.m_list (by decide +kernel) rfl) pa_nil))) pa_nil)))) (pss_cons (ps_if (PW.pt (pw_or (pt_not (pt_val (pe_callB call_isiT (by rfl) T.m_isinstance (by decide +kernel) (pa_cons (pv 0) (pa_cons (pe_tup (pa_cons (pe_bltn (v := .ty "tuple") (by rfl) T.m_tuple (by decide +kernel) rfl) (pa_cons (pe_bltn (v := .ty "list") (by rfl) T.m_list (by decide +kernel) rfl) pa_nil))) pa_nil))))) (pw_or1 (pt_cmpR (op_neD (hu64 hr)) (pe_callB call_isi (by rfl) T.m_isinstance (by decide +kernel) (pa_cons (pv 0) (pa_cons (pe_bltn (v := .ty "list") (by rfl) T.m_list (by decide +kernel) rfl) pa_nil))) (pe_callB call_isi (by rfl) T.m_isinstance (by decide +kernel) (pa_cons (pv 1) (pa_cons (pe_bltn (v := .ty "list") (by rfl) T.m_list (by decide +kernel) rfl) pa_nil))) (nomark _))))) (pss_one (ps_ret pe_bl)) pss_nil)
      (pss_cons (ps_if (pt_cmpR (op_neD (hu64 hr)) (pe_callB call_len_seq (by rfl) T.m_len PySem.boot_len (pa_cons (pv 0) pa_nil)) (pe_callB call_len_seq (by rfl) T.m_len PySem.boot_len (pa_cons (pv 1) pa_nil)) (nomark _)) (pss_one (ps_ret pe_bl)) pss_nil)
      (pss_one (ps_ret (pe_cmpR (op_eqD (hu64 hr)) (pe_lc (own := [("_law_k", 2)]) (g := (gName 2)) rfl sc__law_alike.nd (pi_range1 (by rfl) T.m_range (pa_cons (pe_callB call_len_seq (by rfl) T.m_len PySem.boot_len (pa_cons (pv 1) pa_nil)) pa_nil)) (blkOk_by (own := [("_law_k", 2)]) (N := ["_law_found", "_law_due", "_law_k"]) (sc := defScope s_law_alike) (by decide +kernel)) (fun _ _ _ _ _ => (pg_name (i := 2) sc__law_alike.nd rfl (.inl rfl))) (fun _ _ _ _ _ => (pts_one (pt_not (pt_val (pe_c c__law_alike hr (by decide) (by rfl) (pa_cons (pe_ix (ix_seqK (K := K) rfl) (pv 0) (pv 2) (fun _ _ => rfl)) (pa_cons (pe_ix (ix_seqK (K := K) rfl) (pv 1) (pv 2) (fun _ _ => rfl)) pa_nil))))))) (fun _ _ _ _ _ => (pv 2))) (pe_lst pa_nil) (nomark _)))))) pss_nil)
      (pss_cons (ps_if (PW.pt (pw_or (pt_cmpR op_isN (pv 1) pe_non (nomark _)) (pw_or1 (pt_val (pe_callB call_isi (by rfl) T.m_isinstance (by decide +kernel) (pa_cons (pv 1) (pa_cons (pe_bltn (v := .ty "str") (by rfl) T.m_str (by decide +kernel) rfl) pa_nil))))))) (pss_one (ps_ret (pe_and (pe_cmpR (op_eqD (hu64 hr)) (pv 0) (pv 1) (nomark _)) (pe_one (pe_cmpR (op_eqD (hu64 hr)) (pe_callB call_isi (by rfl) T.m_isinstance (by decide +kernel) (pa_cons (pv 0) (pa_cons (pe_bltn (v := .ty "str") (by rfl) T.m_str (by decide +kernel) rfl) pa_nil))) (pe_callB call_isi (by rfl) T.m_isinstance (by decide +kernel) (pa_cons (pv 1) (pa_cons (pe_bltn (v := .ty "str") (by rfl) T.m_str (by decide +kernel) rfl) pa_nil))) (nomark _)))))) pss_nil)
      (pss_one (ps_ret (pe_and (pe_callB call_isi (by rfl) T.m_isinstance (by decide +kernel) (pa_cons (pv 0) (pa_cons (pe_bltn (v := .ty "int") (by rfl) T.m_int (by decide +kernel) rfl) pa_nil))) (pe_and (pe_cmpR (op_eqD (hu64 hr)) (pe_callB call_isi (by rfl) T.m_isinstance (by decide +kernel) (pa_cons (pv 0) (pa_cons (pe_bltn (v := .ty "bool") (by rfl) T.m_bool (by decide +kernel) rfl) pa_nil))) (pe_callB call_isi (by rfl) T.m_isinstance (by decide +kernel) (pa_cons (pv 1) (pa_cons (pe_bltn (v := .ty "bool") (by rfl) T.m_bool (by decide +kernel) rfl) pa_nil))) (nomark _)) (pe_one (pe_cmpR (op_eqD (hu64 hr)) (pv 0) (pv 1) (nomark _))))))))), fun F0 x hx => ?_⟩
  obtain ⟨p, q⟩ := x
  have e : p = q := hx
  subst e
  obtain ⟨p1, p2⟩ := p
  refine wp_seq (wp_yesE (et_B (ev_isi2 (ev_var rfl) kit_tt kit_tl rfl)) rfl ?_)
  refine wp_seq (wp_noE (et_or (et_not (et_B (ev_isi2 (ev_var rfl) kit_tt kit_tl rfl))) fun _ => et_test (ev_op (ev_isi (ev_var rfl) kit_tl) (ev_isi (ev_var rfl) kit_tl) (opd_ne (n := 1) (m := 1) rfl rfl (by decide) (by decide)))) rfl (wp_next ?_))
  refine wp_seq (wp_noE (et_test (ev_op (ev_cb (ea_cons (ev_var rfl) ea_nil) cd_lenT) (ev_cb (ea_cons (ev_var rfl) ea_nil) cd_lenT) (opd_ne (n := 1) (m := 1) rfl rfl (by decide) (by decide)))) rfl (wp_next ?_))
  refine wp_retD (ev_op (ev_lcRm (n := 2) (fun _ => false) (fun k => .int (k : Nat)) (ea_cons (ev_cb (ea_cons (ev_var rfl) ea_nil) cd_lenT) ea_nil) (by decide) fun k hk => ⟨_, bn_name (by simp), ?_, fun z => (nomatch z)⟩) (ev_lst ea_nil) (opd_eq (n := 1) (m := 1) rfl rfl (by decide) (by decide))) ?_
  · match k, hk with
    | 0, _ => exact et_eq (et_not (et_B (ev_callA (p1, p1) (ea_cons (ev_op (ev_var rfl) (ev_var rfl) (opd_ixT rfl)) (ea_cons (ev_op (ev_var rfl) (ev_var rfl) (opd_ixT rfl)) ea_nil)) rfl trivial))) (by simp)
    | 1, _ => exact et_eq (et_not (et_B (ev_callA (p2, p2) (ea_cons (ev_op (ev_var rfl) (ev_var rfl) (opd_ixT rfl)) (ea_cons (ev_op (ev_var rfl) (ev_var rfl) (opd_ixT rfl)) ea_nil)) rfl trivial))) (by simp)
  · rfl
end
end Dl
set_option Elab.async false
set_option linter.all false
set_option maxRecDepth 100000
set_option maxHeartbeats 1000000
/-! Walks 24: the law's rings, without the program. -/
namespace Dl
open PySem PySem.Spec PyProof.Rows L2 C8 Rf
def nlt (a b : Node) : Bool := decide (a.1 < b.1 ∨ (a.1 = b.1 ∧ a.2 < b.2))
theorem nlt_total {a b : Node} (h : a ≠ b) : nlt a b = true ∨ nlt b a = true := by
  obtain ⟨a1, a2⟩ := a
  obtain ⟨b1, b2⟩ := b
  simp only [nlt, decide_eq_true_eq, ne_eq, Prod.mk.injEq] at h ⊢
  omega
theorem nlt_trans {a b c : Node} (h : nlt a b = true) (h' : nlt b c = true) : nlt a c = true := by
  obtain ⟨a1, a2⟩ := a
  obtain ⟨b1, b2⟩ := b
  obtain ⟨c1, c2⟩ := c
  simp only [nlt, decide_eq_true_eq] at h h' ⊢
  omega
def pend (u : Node) (p : List Step) : Node := p.foldl (fun _ s => s.dst) u
theorem pend_snoc (u : Node) (p : List Step) (s : Step) : pend u (p ++ [s]) = s.dst := by simp [pend, List.foldl_append]
theorem walk_pend : ∀ {p : List Step} {u v : Node}, Walk u p v → pend u p = v
  | [], _, _, h => walk_nil h
  | s :: p, u, v, h => by
    obtain ⟨e, h2⟩ := h.inv
    show pend s.dst p = v
    exact walk_pend h2
theorem walk_nodes : ∀ {p : List Step} {u v : Node}, Walk u p v → u :: p.map Step.dst = p.map Step.src ++ [v]
  | [], _, _, h => by rw [walk_nil h]; rfl
  | s :: p, u, v, h => by
    obtain ⟨e, h2⟩ := h.inv
    rw [List.map_cons, List.map_cons, walk_nodes h2, e]
    rfl
def outs (S : List Step) (v : Node) : List Step := S.filter fun s => decide (s.src = v)
def goOn (u : Node) (p : List Step) (s : Step) : Bool := !decide (s.dst ∈ u :: p.map Step.dst) && nlt u s.dst
def ext (S : List Step) (u : Node) (p : List Step) : List (List Step) := ((outs S (pend u p)).filter (goOn u p)).map fun s => p ++ [s]
def rows (S : List Step) (u : Node) : Nat → List (List Step)
  | 0 => [[]]
  | k + 1 => (rows S u k).flatMap (ext S u)
structure Vp (S : List Step) (u : Node) (k : Nat) (p : List Step) : Prop where
  len : p.length = k
  walk : Walk u p (pend u p)
  mem : ∀ s ∈ p, s ∈ S
  nd : (u :: p.map Step.dst).Nodup
theorem mem_outs {S : List Step} {v : Node} {s : Step} : s ∈ outs S v ↔ s ∈ S ∧ s.src = v := by simp [outs]
theorem Vp.walk1 {S : List Step} {u : Node} {k : Nat} {p : List Step} (h : Vp S u k p) {s : Step} (hs : s ∈ outs S (pend u p)) : Walk u (p ++ [s]) s.dst ∧ ∀ t ∈ p ++ [s], t ∈ S := by
  obtain ⟨h1, h2⟩ := mem_outs.mp hs
  constructor
  · have := Walk.cons (Walk.nil s.dst)
    rw [h2] at this
    exact h.walk.append this
  · intro t ht
    rcases List.mem_append.mp ht with z | z
    · exact h.mem t z
    · rw [List.mem_singleton.mp z]; exact h1
theorem rows_ok (S : List Step) (u : Node) : ∀ k p, p ∈ rows S u k → Vp S u k p
  | 0, p, h => by
    have : p = [] := by simpa [rows] using h
    subst this
    exact ⟨rfl, .nil u, fun s hs => (nomatch hs), by simp⟩
  | k + 1, p, h => by
    obtain ⟨q, hq, h2⟩ := List.mem_flatMap.mp h
    have V := rows_ok S u k q hq
    obtain ⟨s, hs, rfl⟩ := List.mem_map.mp h2
    obtain ⟨hs, hg⟩ := List.mem_filter.mp hs
    obtain ⟨w1, w2⟩ := V.walk1 hs
    refine ⟨by rw [List.length_append, V.len]; rfl, by rw [pend_snoc]; exact w1, w2, ?_⟩
    rw [List.map_append, ← List.cons_append]
    refine List.nodup_append.mpr ⟨V.nd, by simp, fun a ha b hb e => ?_⟩
    have : b = s.dst := by simpa using hb
    subst this
    subst e
    simp only [goOn, Bool.and_eq_true, Bool.not_eq_true', decide_eq_false_iff_not] at hg
    exact hg.1 ha
theorem rows_all {S : List Step} {u : Node} : ∀ {n : Nat} {p : List Step} {v : Node}, p.length = n → Walk u p v → (∀ s ∈ p, s ∈ S) → (u :: p.map Step.dst).Nodup → (∀ s ∈ p, nlt u s.dst = true) → p ∈ rows S u n
  | 0, p, v, hl, _, _, _, _ => by
    have := List.eq_nil_of_length_eq_zero hl
    subst this
    simp [rows]
  | n + 1, p, v, hl, hw, hm, hn, hu => by
    rcases List.eq_nil_or_concat p with z | ⟨q, s, e⟩
    · subst z; simp at hl
    · rw [List.concat_eq_append] at e
      subst e
      obtain ⟨x, w1, w2⟩ := hw.split
      obtain ⟨e2, w3⟩ := w2.inv
      rw [List.length_append, List.length_singleton] at hl
      rw [List.map_append, ← List.cons_append] at hn
      obtain ⟨n1, _, n3⟩ := List.nodup_append.mp hn
      refine List.mem_flatMap.mpr ⟨q, rows_all (by omega) w1 (fun s hs => hm s (List.mem_append_left _ hs)) n1 (fun s hs => hu s (List.mem_append_left _ hs)), List.mem_map.mpr ⟨s, List.mem_filter.mpr ⟨mem_outs.mpr ⟨hm s (by simp), by rw [walk_pend w1, e2]⟩, ?_⟩, rfl⟩⟩
      simp only [goOn, Bool.and_eq_true, Bool.not_eq_true', decide_eq_false_iff_not]
      exact ⟨fun z => n3 _ z s.dst (by simp) rfl, hu s (by simp)⟩
theorem rows_end {S : List Step} (h : S.length ≤ 22) (u : Node) : rows S u 23 = [] := by
  refine List.eq_nil_iff_forall_not_mem.mpr fun p hp => ?_
  have V := rows_ok S u 23 p hp
  have := nodup_subG (D := S.map Step.dst) (List.nodup_cons.mp V.nd).2 fun x hx => by
    obtain ⟨s, hs, rfl⟩ := List.mem_map.mp hx
    exact List.mem_map.mpr ⟨s, V.mem s hs, rfl⟩
  rw [List.length_map, List.length_map, V.len] at this
  omega
/-! ### how many -/
def remN (S p : List Step) : Nat := (S.filter fun s => !decide (s.src ∈ p.map Step.src)).length
def wt (S p : List Step) : Nat := 3 ^ remN S p * 2 ^ (22 - remN S p)
theorem rem_snoc {S p : List Step} {s : Step} {v : Node} (hs : s.src = v) (hv : v ∉ p.map Step.src) : remN S (p ++ [s]) + (outs S v).length = remN S p := by
  unfold remN outs
  induction S with
  | nil => rfl
  | cons t S ih =>
    rw [List.filter_cons, List.filter_cons, List.filter_cons]
    by_cases h1 : t.src = v
    · have a : (!decide (t.src ∈ (p ++ [s]).map Step.src)) = false := by simp [h1, hs]
      have b : (!decide (t.src ∈ p.map Step.src)) = true := by rw [h1, decide_eq_false hv]; rfl
      rw [a, b, decide_eq_true h1]
      simp only [if_true, Bool.false_eq_true, if_false, List.length_cons]
      omega
    · have a : (!decide (t.src ∈ (p ++ [s]).map Step.src)) = (!decide (t.src ∈ p.map Step.src)) := by
        congr 1
        refine decide_eq_decide.mpr ?_
        rw [List.map_append, List.mem_append, List.map_cons, List.map_nil, List.mem_singleton, hs]
        exact ⟨fun z => z.elim id fun z => absurd z h1, .inl⟩
      rw [a, decide_eq_false h1]
      simp only [Bool.false_eq_true, if_false]
      split
      · simp only [List.length_cons]
        omega
      · exact ih
theorem d_pow : ∀ d : Nat, d * 2 ^ d ≤ 3 ^ d
  | 0 => by decide
  | 1 => by decide
  | 2 => by decide
  | d + 3 => by
    have ih := d_pow (d + 2)
    rw [Nat.pow_succ 2, Nat.pow_succ 3]
    have : (d + 3) * (2 ^ (d + 2) * 2) = (d + 2) * 2 ^ (d + 2) * 2 + 2 * 2 ^ (d + 2) := by
      rw [Nat.add_mul (d + 2) 1]
      have : 1 * (2 ^ (d + 2) * 2) = 2 * 2 ^ (d + 2) := by omega
      rw [this, ← Nat.mul_assoc]
    rw [this]
    have : 2 * 2 ^ (d + 2) ≤ (d + 2) * 2 ^ (d + 2) := Nat.mul_le_mul_right _ (by omega)
    omega
theorem sum_const {α : Type} {w : α → Nat} {c : Nat} : ∀ {l : List α}, (∀ x ∈ l, w x = c) → (l.map w).sum = l.length * c
  | [], _ => by simp
  | x :: l, h => by
    rw [List.map_cons, List.sum_cons, h x List.mem_cons_self, sum_const fun y hy => h y (List.mem_cons_of_mem _ hy), List.length_cons, Nat.add_mul]
    omega
theorem ext_wt {S : List Step} (hS : S.length ≤ 22) {u : Node} {k : Nat} {p : List Step} (V : Vp S u k p) : ((ext S u p).map (wt S)).sum ≤ wt S p := by
  have hv : pend u p ∉ p.map Step.src := by
    have := V.nd
    rw [walk_nodes V.walk] at this
    intro z
    exact (List.nodup_append.mp this).2.2 _ z _ (by simp) rfl
  generalize hd : (outs S (pend u p)).length = d
  have r0 : remN S p ≤ 22 := Nat.le_trans (List.length_filter_le _ _) hS
  have e : ∀ q ∈ ext S u p, wt S q = 3 ^ (remN S p - d) * 2 ^ (22 - (remN S p - d)) := fun q hq => by
    obtain ⟨s, hs, rfl⟩ := List.mem_map.mp hq
    have := rem_snoc (S := S) (p := p) (s := s) (mem_outs.mp (List.mem_filter.mp hs).1).2 hv
    unfold wt
    rw [show remN S (p ++ [s]) = remN S p - d by omega]
  rw [sum_const e]
  have l1 : (ext S u p).length ≤ d := by
    unfold ext
    rw [List.length_map, ← hd]
    exact List.length_filter_le _ _
  rcases Nat.eq_zero_or_pos (ext S u p).length with z | z
  · rw [z, Nat.zero_mul]; exact Nat.zero_le _
  · have dr : d ≤ remN S p := by
      obtain ⟨q, hq⟩ := List.exists_mem_of_length_pos z
      obtain ⟨s, hs, rfl⟩ := List.mem_map.mp hq
      have := rem_snoc (S := S) (p := p) (s := s) (mem_outs.mp (List.mem_filter.mp hs).1).2 hv
      omega
    refine Nat.le_trans (Nat.mul_le_mul_right _ l1) ?_
    unfold wt
    have e1 : 22 - (remN S p - d) = d + (22 - remN S p) := by omega
    have e2 : remN S p = (remN S p - d) + d := by omega
    rw [e1, Nat.pow_add 2]
    conv => rhs; rw [e2, Nat.pow_add 3, ← e2]
    have := d_pow d
    calc d * (3 ^ (remN S p - d) * (2 ^ d * 2 ^ (22 - remN S p))) = 3 ^ (remN S p - d) * (d * 2 ^ d) * 2 ^ (22 - remN S p) := by simp [Nat.mul_assoc, Nat.mul_comm, Nat.mul_left_comm]
      _ ≤ 3 ^ (remN S p - d) * 3 ^ d * 2 ^ (22 - remN S p) := Nat.mul_le_mul_right _ (Nat.mul_le_mul_left _ this)
theorem flat_sum {α : Type} {f : α → List α} {w : α → Nat} : ∀ {l : List α}, (∀ x ∈ l, ((f x).map w).sum ≤ w x) → ((l.flatMap f).map w).sum ≤ (l.map w).sum
  | [], _ => by simp
  | x :: l, h => by
    rw [List.flatMap_cons, List.map_append, List.sum_append_nat, List.map_cons, List.sum_cons]
    have a := h x List.mem_cons_self
    have b := flat_sum fun y hy => h y (List.mem_cons_of_mem _ hy)
    omega
theorem rows_sum {S : List Step} (hS : S.length ≤ 22) (u : Node) : ∀ k, ((rows S u k).map (wt S)).sum ≤ 31381059609
  | 0 => by
    show (([[]] : List (List Step)).map (wt S)).sum ≤ _
    rw [List.map_cons, List.map_nil, List.sum_cons, List.sum_nil, Nat.add_zero]
    have r0 : remN S [] ≤ 22 := Nat.le_trans (List.length_filter_le _ _) hS
    unfold wt
    generalize remN S [] = r at r0
    have : 2 ^ (22 - r) ≤ 3 ^ (22 - r) := Nat.pow_le_pow_left (by omega) _
    refine Nat.le_trans (Nat.mul_le_mul_left _ this) ?_
    rw [← Nat.pow_add, show r + (22 - r) = 22 by omega]
    decide
  | k + 1 => Nat.le_trans (flat_sum fun p hp => ext_wt hS (rows_ok S u k p hp)) (rows_sum hS u k)
theorem sum_low {α : Type} {w : α → Nat} {c : Nat} : ∀ {l : List α}, (∀ x ∈ l, c ≤ w x) → l.length * c ≤ (l.map w).sum
  | [], _ => by simp
  | x :: l, h => by
    rw [List.map_cons, List.sum_cons, List.length_cons, Nat.add_mul]
    have a := h x List.mem_cons_self
    have b := sum_low fun y hy => h y (List.mem_cons_of_mem _ hy)
    omega
theorem rows_len {S : List Step} (hS : S.length ≤ 22) (u : Node) (k : Nat) : (rows S u k).length ≤ 7481 := by
  have h := rows_sum hS u k
  have l := sum_low (w := wt S) (c := 4194304) (l := rows S u k) fun p _ => by
    have r0 : remN S p ≤ 22 := Nat.le_trans (List.length_filter_le _ _) hS
    unfold wt
    generalize remN S p = r at r0
    have : 2 ^ r ≤ 3 ^ r := Nat.pow_le_pow_left (by omega) _
    refine Nat.le_trans ?_ (Nat.mul_le_mul_right _ this)
    rw [← Nat.pow_add, show r + (22 - r) = 22 by omega]
    decide
  omega
/-- what lies in the list while a round goes on -/
theorem part_len {S : List Step} (hS : S.length ≤ 22) (u : Node) (k : Nat) {i j : Nat} {p : List Step} (hp : (rows S u k)[i]? = some p) :
    ((((rows S u k).take i).flatMap (ext S u)) ++ (((outs S (pend u p)).take j).filter (goOn u p)).map fun s => p ++ [s]).length ≤ 7481 := by
  refine Nat.le_trans ?_ (rows_len hS u (k + 1))
  show _ ≤ ((rows S u k).flatMap (ext S u)).length
  obtain ⟨hi, e⟩ := List.getElem?_eq_some_iff.mp hp
  have e2 : rows S u k = (rows S u k).take i ++ p :: (rows S u k).drop (i + 1) := by
    rw [← e, List.getElem_cons_drop, List.take_append_drop]
  conv => rhs; rw [e2]
  rw [List.flatMap_append, List.flatMap_cons, List.length_append, List.length_append, List.length_append, List.length_map]
  have : (((outs S (pend u p)).take j).filter (goOn u p)).length ≤ (ext S u p).length := by
    unfold ext
    rw [List.length_map]
    exact ((List.take_sublist _ _).filter _).length_le
  omega
/-! ### the best mean -/
def Dm (ts : List Nat) (b : Int × Int) (R : List Step) : Prop := 0 ≤ lsum R → tsum ts R * b.2 ≤ b.1 * lsum R
def BOk (S : List Step) (ts : List Nat) (b : Int × Int) : Prop := b = (0, 1) ∨ ∃ u R, Walk u R u ∧ R ≠ [] ∧ (∀ s ∈ R, s ∈ S) ∧ b = rd (tsum ts R) (lsum R) ∧ R.length ≤ 23
theorem best_up {ts : List Nat} {b : Int × Int} (hb : 0 < b.2) {R : List Step} (hL : 0 < lsum R) : Dm ts (if b.1 * (rd (tsum ts R) (lsum R)).2 < (rd (tsum ts R) (lsum R)).1 * b.2 then rd (tsum ts R) (lsum R) else b) R ∧
    ∀ R', Dm ts b R' → Dm ts (if b.1 * (rd (tsum ts R) (lsum R)).2 < (rd (tsum ts R) (lsum R)).1 * b.2 then rd (tsum ts R) (lsum R) else b) R' := by
  obtain ⟨g, hg, e1, e2⟩ := rd_mul (a := tsum ts R) hL
  have hp := rd_pos (a := tsum ts R) hL
  generalize rd (tsum ts R) (lsum R) = r at *
  obtain ⟨c, d⟩ := r
  obtain ⟨a, b⟩ := b
  simp only at *
  split
  · next lt =>
    refine ⟨fun _ => ?_, fun R' h hl => ?_⟩
    · show tsum ts R * d ≤ c * lsum R
      rw [e1, e2, Int.mul_assoc, Int.mul_comm g d]
      exact Int.le_refl _
    · have h := h hl
      simp only at h ⊢
      have s1 : tsum ts R' * b * d ≤ a * lsum R' * d := Int.mul_le_mul_of_nonneg_right h (by omega)
      have s2 : a * d * lsum R' ≤ c * b * lsum R' := Int.mul_le_mul_of_nonneg_right (by omega) hl
      have s3 : tsum ts R' * d * b ≤ c * lsum R' * b := by
        have x1 : tsum ts R' * d * b = tsum ts R' * b * d := by simp [Int.mul_assoc, Int.mul_comm, Int.mul_left_comm]
        have x2 : a * lsum R' * d = a * d * lsum R' := by simp [Int.mul_assoc, Int.mul_comm, Int.mul_left_comm]
        have x3 : c * lsum R' * b = c * b * lsum R' := by simp [Int.mul_assoc, Int.mul_comm, Int.mul_left_comm]
        omega
      exact Int.le_of_mul_le_mul_right s3 hb
  · next lt =>
    refine ⟨fun _ => ?_, fun R' h => h⟩
    show tsum ts R * b ≤ a * lsum R
    have s : c * b * g ≤ a * d * g := Int.mul_le_mul_of_nonneg_right (by omega) (by omega)
    have x1 : tsum ts R * b = c * b * g := by rw [e1]; simp [Int.mul_assoc, Int.mul_comm, Int.mul_left_comm]
    have x2 : a * lsum R = a * d * g := by rw [e2]; simp [Int.mul_assoc, Int.mul_comm, Int.mul_left_comm]
    omega
theorem best_eq {S : List Step} {ts : List Nat} {b : Int × Int} {R : List Step} (G : Gph S ts) (h : BOk S ts b) (hd : Dm ts b R) (sl : Slow (fun s => s ∈ S) ts R) (hL : 0 < lsum R) : b = rd (tsum ts R) (lsum R) := by
  have hd := hd (by omega)
  rcases h with e | ⟨u, R', hw, hne, hm, e, _⟩
  · subst e
    simp only [Int.mul_one, Int.zero_mul] at hd
    have t0 := (gsum_bd (g := fun s => ((rv ts s.a : Nat) : Int)) (M := 99) (R := R) fun s _ => ⟨Int.natCast_nonneg _, by have := rv_le G.tl s.a; omega⟩).1
    have : tsum ts R = 0 := by
      unfold tsum at hd ⊢
      omega
    rw [this]
    have e0 : rd 0 1 = (0, 1) := rfl
    rw [← e0]
    exact rd_eq (by decide) hL (by omega)
  · have hL' := G.pos u R' hw hne hm
    obtain ⟨g, hg, e1, e2⟩ := rd_mul (a := tsum ts R') hL'
    rw [← e] at e1 e2
    rw [e]
    refine rd_eq hL' hL ?_
    have mx := sl.2.2.2.2 u R' hw hm
    have s : tsum ts R * b.2 * g ≤ b.1 * lsum R * g := Int.mul_le_mul_of_nonneg_right hd (by omega)
    have x1 : tsum ts R * b.2 * g = tsum ts R * lsum R' := by rw [e2]; simp [Int.mul_assoc]
    have x2 : b.1 * lsum R * g = tsum ts R' * lsum R := by rw [e1]; simp [Int.mul_assoc, Int.mul_comm, Int.mul_left_comm]
    rw [Int.mul_comm (lsum R')] at mx
    omega
/-! ### a ring from its least place on -/
theorem least_src : ∀ {R : List Step}, R ≠ [] → ∃ s ∈ R, ∀ t ∈ R, t.src = s.src ∨ nlt s.src t.src = true
  | [], h => absurd rfl h
  | [s], _ => ⟨s, by simp, fun t ht => .inl (by rw [List.mem_singleton.mp ht])⟩
  | s :: t :: R, _ => by
    obtain ⟨x, hx, h⟩ := least_src (R := t :: R) (by simp)
    by_cases e : s.src = x.src
    · exact ⟨x, List.mem_cons_of_mem _ hx, fun y hy => (List.mem_cons.mp hy).elim (fun z => .inl (by rw [z, e])) (h y)⟩
    · rcases nlt_total e with l | l
      · refine ⟨s, List.mem_cons_self, fun y hy => (List.mem_cons.mp hy).elim (fun z => .inl (by rw [z])) fun z => .inr ?_⟩
        rcases h y z with z | z
        · rw [z]; exact l
        · exact nlt_trans l z
      · exact ⟨x, List.mem_cons_of_mem _ hx, fun y hy => (List.mem_cons.mp hy).elim (fun z => .inr (by rw [z]; exact l)) (h y)⟩
theorem gsum_perm (g : Step → Int) {R R' : List Step} (h : R.Perm R') : gsum g R = gsum g R' := by
  unfold gsum
  induction h with
  | nil => rfl
  | cons x _ ih => simp only [List.map_cons, List.sum_cons, ih]
  | swap x y l => simp only [List.map_cons, List.sum_cons]; omega
  | trans _ _ h1 h2 => rw [h1, h2]
theorem ring_found {S : List Step} {u : Node} {R : List Step} (hw : Walk u R u) (hne : R ≠ []) (hm : ∀ s ∈ R, s ∈ S) (hn : (R.map Step.src).Nodup) :
    ∃ R', R'.Perm R ∧ ∃ u' p s, R' = p ++ [s] ∧ p ∈ rows S u' p.length ∧ s ∈ outs S (pend u' p) ∧ s.dst = u' ∧ ∃ t ∈ S, t.src = u' := by
  obtain ⟨t, ht, le⟩ := least_src hne
  obtain ⟨A, B, e⟩ := List.append_of_mem ht
  subst e
  obtain ⟨x, w1, w2⟩ := hw.split
  obtain ⟨e, _⟩ := w2.inv
  subst e
  have w3 := w2.append w1
  have pm : (t :: B ++ A).Perm (A ++ t :: B) := List.perm_append_comm
  refine ⟨_, pm, t.src, ?_⟩
  have mem' : ∀ s ∈ t :: B ++ A, s ∈ S := fun s hs => hm s (pm.mem_iff.mp hs)
  have nd' : ((t :: B ++ A).map Step.src).Nodup := (pm.map Step.src).nodup_iff.mpr hn
  have le' : ∀ y ∈ t :: B ++ A, y.src = t.src ∨ nlt t.src y.src = true := fun y hy => le y (pm.mem_iff.mp hy)
  have ne' : t :: B ++ A ≠ [] := by simp
  generalize t :: B ++ A = R' at *
  rcases List.eq_nil_or_concat R' with z | ⟨p, s, e⟩
  · exact absurd z ne'
  · rw [List.concat_eq_append] at e
    subst e
    obtain ⟨y, v1, v2⟩ := w3.split
    obtain ⟨e, v3⟩ := v2.inv
    subst e
    have nn := walk_nodes v1
    have nd2 : (t.src :: p.map Step.dst).Nodup := by
      rw [nn]
      rw [List.map_append] at nd'
      exact nd'
    refine ⟨p, s, rfl, rows_all rfl v1 (fun s hs => mem' s (List.mem_append_left _ hs)) nd2 fun s' hs' => ?_, mem_outs.mpr ⟨mem' s (by simp), (walk_pend v1).symm⟩, walk_nil v3, t, hm t ht, rfl⟩
    have hd : s'.dst ∈ p.map Step.dst := List.mem_map.mpr ⟨s', hs', rfl⟩
    have ne : s'.dst ≠ t.src := fun z => (List.nodup_cons.mp nd2).1 (by rw [← z]; exact hd)
    have : s'.dst ∈ (p ++ [s]).map Step.src := by
      rw [List.map_append]
      show s'.dst ∈ p.map Step.src ++ [s.src]
      rw [← nn]
      exact List.mem_cons_of_mem _ hd
    obtain ⟨y, hy, e⟩ := List.mem_map.mp this
    rw [← e] at ne ⊢
    exact (le' y hy).resolve_left ne
theorem Dm.perm {ts : List Nat} {b : Int × Int} {R R' : List Step} (h : Dm ts b R) (p : R.Perm R') : Dm ts b R' := by
  unfold Dm tsum lsum at *
  rw [← gsum_perm _ p, ← gsum_perm _ p]
  exact h
end Dl
set_option Elab.async false
set_option linter.all false
set_option maxRecDepth 100000
set_option maxHeartbeats 1000000
/-! Walks 25: the law's mean. -/
namespace Dl
open PySem PySem.Spec PyProof.Rows L2 C8 Rf
theorem eqv_nd (u v : Node) : PyData.eqv (ndD u) (ndD v) = decide (u = v) := by
  rw [eqv_node]
  exact decide_eq_decide.mpr ⟨fun ⟨a, b⟩ => Prod.ext a b, fun z => by rw [z]; exact ⟨rfl, rfl⟩⟩
theorem lt_nd (u v : Node) : W.dataLt (ndD u) (ndD v) = nlt u v := by
  show W.dataLt (.tuple [.int (u.1 : Nat), .int (u.2 : Nat)]) (.tuple [.int (v.1 : Nat), .int (v.2 : Nat)]) = _
  rw [W.dataLt_ii]
  exact decide_eq_decide.mpr (by omega)
theorem any_nds (L : List Node) (v : Node) : ((L.map ndD).any fun z => PyData.eqv z (ndD v)) = decide (v ∈ L) := by
  induction L with
  | nil => simp
  | cons t L ih =>
    show (PyData.eqv (ndD t) (ndD v) || (L.map ndD).any _) = _
    rw [ih, eqv_nd]
    by_cases h : v = t
    · simp [h]
    · have : ¬ t = v := fun e => h e.symm
      simp [h, this]
theorem pl_nds (L : List Node) : Pl 2 (.tuple (L.map ndD)) = true := by simp [Pl]
theorem nd_inj (u v : Node) (h : ndD u = ndD v) : u = v := by
  obtain ⟨a, b⟩ := u
  obtain ⟨c, d⟩ := v
  simp only [ndD, nodeD, PyData.tuple.injEq, List.cons.injEq, PyData.int.injEq, and_true] at h
  exact Prod.ext (by simp; omega) (by simp; omega)
theorem nk_nd {u v : Node} (h : nkOf (ndD u) = nkOf (ndD v)) : u = v := by
  obtain ⟨a, b⟩ := u
  obtain ⟨c, d⟩ := v
  simp only [ndD, nodeD, nkOf, nksOf, NestedKey.tup.injEq, NestedKey.num.injEq, List.cons.injEq, and_true] at h
  exact Prod.ext (by simp; omega) (by simp; omega)
theorem srt_nds (L : List Node) : SrtOk (L.map ndD) := by
  refine ⟨W.AllAlike.of fun s t => ?_, fun d hd => ?_⟩
  · simp [W.alike, W.alikeAll]
  · obtain ⟨s, _, rfl⟩ := List.mem_map.mp hd
    exact ⟨rfl, _, _, rfl⟩
def nearE (T : List Step) (V : List Node) : List (PyData × PyData) := V.map fun v => (ndD v, PyData.list ((outs T v).map stepD))
theorem nget_near {T : List Step} {v : Node} : ∀ {V : List Node}, nget (nearE T V) (ndD v) = if v ∈ V then some (PyData.list ((outs T v).map stepD)) else none
  | [] => by simp [nget, nearE]
  | u :: V => by
    unfold nget nearE
    rw [List.map_cons, List.find?_cons]
    by_cases e : u = v
    · subst e
      simp
    · have ne : ¬ nkOf (ndD u) = nkOf (ndD v) := fun z => e (nk_nd z)
      have ih := nget_near (T := T) (v := v) (V := V)
      unfold nget nearE at ih
      simp only [decide_eq_false ne]
      rw [ih]
      by_cases h : v ∈ V
      · rw [if_pos h, if_pos (List.mem_cons_of_mem _ h)]
      · rw [if_neg h, if_neg fun z => (List.mem_cons.mp z).elim (fun z => e z.symm) h]
theorem nget_nearD {T : List Step} {V : List Node} (h : ∀ s ∈ T, s.src ∈ V) (v : Node) : (nget (nearE T V) (ndD v)).getD (.list []) = .list ((outs T v).map stepD) := by
  rw [nget_near]
  by_cases m : v ∈ V
  · rw [if_pos m]; rfl
  · rw [if_neg m]
    have : outs T v = [] := List.filter_eq_nil_iff.mpr fun s hs e => m (by rw [← of_decide_eq_true e]; exact h s hs)
    rw [this]
    rfl
theorem nput_near {T : List Step} {V : List Node} (hn : V.Nodup) (h : ∀ v ∈ V, ∃ s ∈ T, s.src = v) (h' : ∀ s ∈ T, s.src ∈ V) (s : Step) :
    ∃ V', nput (nearE T V) (ndD s.src) (.list ((outs T s.src).map stepD ++ [stepD s])) = nearE (T ++ [s]) V' ∧ V'.Nodup ∧ (∀ v ∈ V', ∃ t ∈ T ++ [s], t.src = v) ∧ (∀ t ∈ T ++ [s], t.src ∈ V') ∧ V'.length ≤ V.length + 1 := by
  have em : nkOf (ndD s.src) ∈ (nearE T V).map (fun p => nkOf p.1) ↔ s.src ∈ V := by
    unfold nearE
    rw [List.map_map, List.mem_map]
    exact ⟨fun ⟨t, ht, e⟩ => by rw [← nk_nd e]; exact ht, fun h => ⟨_, h, rfl⟩⟩
  have oe : ∀ v, outs (T ++ [s]) v = outs T v ++ (if s.src = v then [s] else []) := fun v => by
    unfold outs
    rw [List.filter_append, List.filter_cons, List.filter_nil]
    by_cases e : s.src = v <;> simp [e]
  have h1 : ∀ v ∈ V, ∃ t ∈ T ++ [s], t.src = v := fun v hv => let ⟨t, ht, e⟩ := h v hv; ⟨t, List.mem_append_left _ ht, e⟩
  unfold nput
  by_cases m : s.src ∈ V
  · rw [if_pos (em.mpr m)]
    refine ⟨V, ?_, hn, h1, fun t ht => (List.mem_append.mp ht).elim (h' t) fun z => by rw [List.mem_singleton.mp z]; exact m, by omega⟩
    unfold nearE
    rw [List.map_map]
    refine List.map_congr_left fun v _ => ?_
    show (if nkOf (ndD v) = nkOf (ndD s.src) then _ else _) = _
    rw [oe]
    by_cases e : s.src = v
    · rw [if_pos (by rw [e]), if_pos e, e, List.map_append]
      rfl
    · rw [if_neg fun z => e (nk_nd z).symm, if_neg e, List.append_nil]
  · rw [if_neg fun z => m (em.mp z)]
    refine ⟨V ++ [s.src], ?_, List.nodup_append.mpr ⟨hn, by simp, fun a ha d hd z => m (by simp at hd; rw [← hd, ← z]; exact ha)⟩, fun v hv => ?_, fun t ht => ?_, by simp⟩
    · unfold nearE
      rw [List.map_append]
      congr 1
      · refine List.map_congr_left fun v hv => ?_
        rw [oe, if_neg fun e => m (by rw [e]; exact hv), List.append_nil]
      · rw [List.map_cons, List.map_nil, oe, if_pos rfl, List.map_append]
        rfl
    · rcases List.mem_append.mp hv with z | z
      · exact h1 v z
      · exact ⟨s, by simp, (List.mem_singleton.mp z).symm⟩
    · rcases List.mem_append.mp ht with z | z
      · exact List.mem_append_left _ (h' t z)
      · rw [List.mem_singleton.mp z]; simp
theorem rows_nil {S : List Step} {u : Node} {k : Nat} (h : rows S u k = []) : ∀ j, rows S u (k + j) = []
  | 0 => h
  | j + 1 => by
    show (rows S u (k + j)).flatMap _ = []
    rw [rows_nil h j]
    rfl
def rowD (ts : List Nat) (u : Node) (p : List Step) : PyData := .tuple [ndD (pend u p), .tuple ((u :: p.map Step.dst).map ndD), .int (tsum ts p), .int (lsum p)]
theorem pl_rows (ts : List Nat) (u : Node) (L : List (List Step)) : Pl 4 (.list (L.map (rowD ts u))) = true := by simp [Pl, rowD]
def Cls (S : List Step) (u : Node) (p R : List Step) : Prop := ∃ s ∈ outs S (pend u p), s.dst = u ∧ R = p ++ [s]
def Bst (S : List Step) (ts : List Nat) (b : Int × Int) (D : List Step → Prop) : Prop := BOk S ts b ∧ ∀ R, D R → Dm ts b R
theorem Bst.mono {S : List Step} {ts : List Nat} {b : Int × Int} {D D' : List Step → Prop} (h : Bst S ts b D) (k : ∀ R, D' R → D R) : Bst S ts b D' := ⟨h.1, fun R r => h.2 R (k R r)⟩
theorem BOk.bd {S : List Step} {ts : List Nat} {b : Int × Int} (G : Gph S ts) (h : BOk S ts b) : 0 < b.2 ∧ Sm b.1 := by
  rcases h with e | ⟨u, R, hw, hne, hm, e, hl⟩
  · subst e
    exact ⟨by decide, by constructor <;> decide⟩
  · have hL := G.pos u R hw hne hm
    have t := gsum_bd (g := fun s => ((rv ts s.a : Nat) : Int)) (M := 99) (R := R) fun s _ => ⟨Int.natCast_nonneg _, by have := rv_le G.tl s.a; omega⟩
    have a := rd_abs (a := tsum ts R) hL
    rw [e]
    refine ⟨rd_pos hL, ?_⟩
    unfold Sm
    unfold tsum at a ⊢
    omega
theorem gsum_one (g : Step → Int) (p : List Step) (s : Step) : gsum g (p ++ [s]) = gsum g p + g s := by rw [gsum_append]; simp [gsum]
section
variable {B : Bs} {Γ : List Sk} {P : Po}
/-- for over a list told by a word -/
theorem wp_forLP {K : PySem.W.Frag} {tl : TE} {g : TG} {tb : TS} {Pd : List PyData → Prop} (Inv : List PyData → Nat → List Sk → Prop) (hl : EvP B tl Γ (fun d => ∃ ds, d = .list ds ∧ Pd ds)) (h0 : ∀ ds, Pd ds → Inv ds 0 Γ)
    (hs : ∀ ds i d Γ', Pd ds → ds[i]? = some d → Inv ds i Γ' → TgP B g d Γ' (fun Γ2 => Wp B tb Γ2 (P.turn (Inv ds (i + 1))))) (hd : ∀ ds Γ', Pd ds → Inv ds ds.length Γ' → P.nx Γ') : Wp B (tFor (iList K tl) g tb) Γ P := fun F H σ D o e => by
  refine hl F H σ o _ fun d0 v F1 H1 e0 g1 r1 hv => ?_
  obtain ⟨ds, rfl, pd⟩ := e0
  obtain ⟨a, xs, rfl, ha, r⟩ := hv.lst_inv
  have e1 := e.up g1.ff
  refine ⟨a, rfl, ⟨xs, SqL.of (g1.fh _ _ ha)⟩, for_list (xs := xs) (LpS B F1 (Inv ds)) ⟨F1, Γ, Same.refl _, o.grow g1 r1, h0 ds pd⟩ (fun i σ' H' hi p => ?_) (fun i x σ' H' hi p => ?_) (fun σ' H' p => ?_)⟩
  · obtain ⟨F', Γ', s, o', _⟩ := p
    exact SqL.of (o'.fh _ _ (s _ _ ha))
  · obtain ⟨d, hd, hx⟩ := r.getV hi
    exact lp_turn e1 (fun F' s => hx.mono s) (fun Γ' inv => hs ds i d Γ' pd hd inv) p
  · obtain ⟨F', Γ', s, o', inv⟩ := p
    rw [r.len] at inv
    exact e1.nx F' H' σ' Γ' s (hd ds Γ' pd inv) o'
end
section
variable {P : Program} {w : World} {K : PySem.W.Frag} {mg : PySem.Str → Option Value} {base : Heap}
theorem sc__law_mean : FnScope ["_law_steps_here", "_law_times", "_law_near", "_law_best", "_law_step", "_law_first", "_law_rows", "_law_more", "_law_here", "_law_seen", "_law_time", "_law_lag", "_law_mean_here"] ["_law_steps_here", "_law_times"] (defScope s_law_mean) := ⟨rfl, rfl, rfl, by decide +kernel, rfl, by decide +kernel, by decide +kernel⟩
structure LMean (S : List Step) (ts : List Nat) (R : List Step) : Prop where
  g : Gph S ts
  few : S.length ≤ 22
  slow : Slow (fun s => s ∈ S) ts R
  pos : 0 < lsum R
abbrev spLMean : Sp := spA (fun x : List Step × List Nat × List Step => [.list (x.1.map stepD), marksD x.2.1]) (fun x => LMean x.1 x.2.1 x.2.2) (fun x r => r = pI (rd (tsum x.2.1 x.2.2) (lsum x.2.2)))
theorem ok__law_mean (T : Tx mg) (F : Df K mg "_law_mean" s_law_mean) (c__law_less : Cal P w K mg base 1 "_law_less" spLess []) (c__law_ratio : Cal P w K mg base 2 "_law_ratio" spRed []) : Cal P w K mg base 3 "_law_mean" spLMean [] := by
  refine calA _ _ _ F sc__law_mean rfl (by decide) (fun _ => rfl) (fun _ _ _ _ _ _ us hl => match us, hl with | [_, _], _ => rfl) fun f cdv A outer s H E hr => ⟨_,
    (pss_cons (ps_par (i := 2) (j := 3) (by rfl) sc__law_mean.nd rfl rfl (by decide) rfl rfl (pa_cons pe_dnewN (pa_cons (pe_tup (pa_cons pe_int (pa_cons pe_int pa_nil))) pa_nil)) (by rfl))
      (pss_cons (ps_for PassesOwn.never rfl (pi_list (pv 0)) (pg_name (i := 4) sc__law_mean.nd rfl (.inl rfl)) (pss_one (ps_asg (pe_op op_cat (pe_nget2 (hu_of65 hr) (pv 2) (pe_ix ix_seq (pv 4) pe_int (fun _ _ => rfl)) (pe_lst pa_nil) (by exact ⟨by rfl, by rfl, by rfl, by rfl⟩)) (pe_lst (pa_cons (pv 4) pa_nil))) (pg_sub (pv 2) (pe_ix ix_seq (pv 4) pe_int (fun _ _ => rfl)) (set_dn (hu65 hr))))))
      (pss_cons (ps_for PassesOwn.never rfl (pi_list (pe_sortKeys hr (pv 2) (by rfl) T.m_sorted)) (pg_name (i := 5) sc__law_mean.nd rfl (.inl rfl)) (pss_cons (ps_set (i := 6) sc__law_mean.nd rfl (.inl rfl) (pe_lst (pa_cons (pe_tup (pa_cons (pv 5) (pa_cons (pe_tup (pa_cons (pv 5) pa_nil)) (pa_cons pe_int (pa_cons pe_int pa_nil))))) pa_nil)))
      (pss_one (ps_while PassesOwn.never (pt_cmpR (op_neD (hu64 hr)) (pv 6) (pe_lst pa_nil) (nomark _)) (pss_cons (ps_set (i := 7) sc__law_mean.nd rfl (.inl rfl) (pe_lst pa_nil))
      (pss_cons (ps_for PassesOwn.never rfl (pi_list (pv 6)) (pg_tup rfl (pgs_cons (pg_name (i := 8) sc__law_mean.nd rfl (.inl rfl)) (pgs_cons (pg_name (i := 9) sc__law_mean.nd rfl (.inl rfl)) (pgs_cons (pg_name (i := 10) sc__law_mean.nd rfl (.inl rfl)) (pgs_cons (pg_name (i := 11) sc__law_mean.nd rfl (.inl rfl)) pgs_nil))))) (pss_one (ps_for PassesOwn.never rfl (pi_list (pe_nget2 (hu_of65 hr) (pv 2) (pv 8) (pe_lst pa_nil) (by exact ⟨by rfl, by rfl, by rfl, by rfl⟩))) (pg_name (i := 4) sc__law_mean.nd rfl (.inl rfl)) (pss_one (ps_if (pt_cmpR (op_eqD (hu64 hr)) (pe_ix ix_seq (pv 4) pe_int (fun _ _ => rfl)) (pv 5) (nomark _)) (pss_cons (ps_set (i := 12) sc__law_mean.nd rfl (.inl rfl) (pe_c c__law_ratio hr (by decide) (by rfl) (pa_cons (pe_op op_add (pv 10) (pe_ix ix_seq (pv 1) (pe_ix ix_seq (pv 8) pe_int (fun _ _ => rfl)) (fun _ _ => rfl))) (pa_cons (pe_op op_add (pv 11) (pe_ix ix_seq (pv 4) pe_int (fun _ _ => rfl))) pa_nil))))
      (pss_one (ps_set (i := 3) sc__law_mean.nd rfl (.inl rfl) (pe_ifExp (pt_val (pe_c c__law_less hr (by decide) (by rfl) (pa_cons (pv 3) (pa_cons (pv 12) pa_nil)))) (pv 12) (pv 3))))) (pss_one (ps_if (PW.pt (pw_and (pt_cmpR (op_notInT (hu65 hr)) (pe_ix ix_seq (pv 4) pe_int (fun _ _ => rfl)) (pv 9) (by rfl)) (pw_and1 (pt_cmpR (op_gtD (hu65 hr)) (pe_ix ix_seq (pv 4) pe_int (fun _ _ => rfl)) (pv 5) (nomark _))))) (pss_one (ps_expr (pe_bm PySem.F.plainAttrs_list PySem.F.slot_list_append PySem.F.type_list_append mt_append (pv 7) (pa_cons (pe_tup (pa_cons (pe_ix ix_seq (pv 4) pe_int (fun _ _ => rfl)) (pa_cons (pe_op op_catA (pv 9) (pe_tup (pa_cons (pe_ix ix_seq (pv 4) pe_int (fun _ _ => rfl)) pa_nil))) (pa_cons (pe_op op_add (pv 10) (pe_ix ix_seq (pv 1) (pe_ix ix_seq (pv 8) pe_int (fun _ _ => rfl)) (fun _ _ => rfl))) (pa_cons (pe_op op_add (pv 11) (pe_ix ix_seq (pv 4) pe_int (fun _ _ => rfl))) pa_nil))))) pa_nil)))) pss_nil)))))))
      (pss_one (ps_set (i := 6) sc__law_mean.nd rfl (.inl rfl) (pv 7)))))))))
      (pss_one (ps_ret (pv 3)))))), fun F0 x hx => ?_⟩
  obtain ⟨S, ts, R⟩ := x
  obtain ⟨G, h22, sl, hL⟩ : LMean S ts R := hx
  show Wp _ _ ([.im (.list (S.map stepD)), .im (marksD ts)] ++ List.replicate _ .un) _
  refine wp_seq (wp_par (Ps := fun ss => ss = [.dn [], .im (pI (0, 1))]) (es_cons (evs_dn (B := ⟨P, w, K, [], F0, H⟩)) (es_cons (evs_d (ev_tup (ea_cons ev_int (ea_cons ev_int ea_nil)))) esp_nil)) fun ss e => ⟨_, _, e, ?_⟩)
  refine wp_seq (wp_forL (Pl := fun _ => True) (ds := S.map stepD) (fun i Γ => ∃ V s4, Γ = [.im (.list (S.map stepD)), .im (marksD ts), .dn (nearE (S.take i) V), .im (pI (0, 1)), s4, .un, .un, .un, .un, .un, .un, .un, .un] ∧ V.Nodup ∧ (∀ v ∈ V, ∃ t ∈ S.take i, t.src = v) ∧ (∀ t ∈ S.take i, t.src ∈ V) ∧ V.length ≤ i) (ev_var rfl)
    ⟨[], _, rfl, List.nodup_nil, fun v hv => (nomatch hv), fun t ht => (by rw [List.take_zero] at ht; cases ht), Nat.le_refl _⟩ (fun i d Γ' hd ⟨V, s4, e, nd, m1, m2, ll⟩ => ?_) (fun Γ' ⟨V, s4, e, nd, m1, m2, ll⟩ => ?_))
  · subst e
    obtain ⟨s, hs, rfl⟩ := map_get hd
    have il := (List.getElem?_eq_some_iff.mp hs).1
    obtain ⟨V', e', nd', m1', m2', ll'⟩ := nput_near nd m1 m2 s
    have tk : S.take (i + 1) = S.take i ++ [s] := by rw [List.take_add_one, hs]; rfl
    have ol : (outs (S.take i) s.src).length ≤ 22 := Nat.le_trans (List.length_filter_le _ _) (by rw [List.length_take]; omega)
    refine tg_name (wp_asgG (ev_op (ev_eq (ev_nget2 (i := 2) rfl (ev_op (ev_var rfl) ev_int (opd_ixT rfl)) rfl (ev_lst ea_nil) fun q hq => by obtain ⟨v, _, rfl⟩ := List.mem_map.mp hq; rfl) (nget_nearD m2 s.src)) (ev_lst (ea_cons (ev_var rfl) ea_nil)) (opd_cat (by rw [List.length_map]; show _ + 1 ≤ _; omega))) fun d e => ?_)
    subst e
    refine tg_sub (i := 2) (kd := ndD s.src) (s' := .dn (nearE (S.take (i + 1)) V')) rfl rfl rfl (ev_op (ev_var rfl) ev_int (opd_ixT rfl)) (by rw [tk, ← e']; exact sd_dn (by unfold nearE; rw [List.length_map]; omega) rfl ⟨_, rfl⟩ fun q hq => by obtain ⟨v, _, rfl⟩ := List.mem_map.mp hq; rfl) ⟨V', _, rfl, nd', by rw [tk]; exact m1', by rw [tk]; exact m2', by omega⟩
  · subst e
    rw [List.length_map] at *
    rw [List.take_length] at *
    have kz : (nearE S V).length < 100000 := by unfold nearE; rw [List.length_map]; omega
    have kk : (nearE S V).map (·.1) = V.map ndD := by unfold nearE; rw [List.map_map]; rfl
    have kt : ∀ q ∈ nearE S V, Tp 7 q.1 = true := fun q hq => by obtain ⟨v, _, rfl⟩ := List.mem_map.mp hq; rfl
    have en : ∀ {B : Bs} {Γ : List Sk} {v : Node} {t : TE}, Γ[2]? = some (.dn (nearE S V)) → Ev B t Γ (ndD v) → Ev B (tNGet2 B.P B.w (tVar 2) t (tLst tNil)) Γ (.list ((outs S v).map stepD)) := fun h1 h2 => ev_eq (ev_nget2 h1 h2 rfl (ev_lst ea_nil) kt) (nget_nearD m2 _)
    refine wp_seq (wp_forLP (Pd := fun ds => ∃ V' : List Node, ds = V'.map ndD ∧ V'.Perm V) (fun ds i Γ => ∃ b s4 s5 s6 s7 s8 s9 t0 t1 t2, Γ = [.im (.list (S.map stepD)), .im (marksD ts), .dn (nearE S V), .im (pI b), s4, s5, s6, s7, s8, s9, t0, t1, t2] ∧ Bst S ts b (fun R => ∃ u, ndD u ∈ ds.take i ∧ ∃ k, ∃ p ∈ rows S u k, Cls S u p R))
      (evp_mono (evp_sortK rfl (by rw [kk]; exact srt_nds V) kz) fun d ⟨es, e, pe⟩ => by
        rw [kk] at pe
        obtain ⟨V', pv, e'⟩ := unperm pe V rfl
        exact ⟨es, e, V', e', pv⟩)
      (fun ds _ => ⟨(0, 1), _, _, _, _, _, _, _, _, _, rfl, .inl rfl, fun R ⟨u, hu, _⟩ => by rw [List.take_zero] at hu; cases hu⟩)
      (fun ds i d Γ' ⟨V', eV, pV⟩ hd ⟨b, s4, s5, s6, s7, s8, s9, t0, t1, t2, e, bs⟩ => ?_) (fun ds Γ' ⟨V', eV, pV⟩ ⟨b, s4, s5, s6, s7, s8, s9, t0, t1, t2, e, bs⟩ => ?_))
    · subst e
      rw [eV] at hd
      obtain ⟨u, hu, rfl⟩ := map_get hd
      generalize hD0 : (fun R : List Step => ∃ u, ndD u ∈ ds.take i ∧ ∃ k, ∃ p ∈ rows S u k, Cls S u p R) = D0 at bs
      refine tg_name (wp_seq (wp_set (d := .list ([[]].map (rowD ts u))) (ev_lst (ea_cons (ev_tup (ea_cons (ev_var rfl) (ea_cons (ev_tup (ea_cons (ev_var rfl) ea_nil)) (ea_cons ev_int (ea_cons ev_int ea_nil))))) ea_nil)) ?_))
      refine wp_while (fun m Γ => ∃ k b s4 s7 s8 s9 t0 t1 t2, Γ = [.im (.list (S.map stepD)), .im (marksD ts), .dn (nearE S V), .im (pI b), s4, .im (ndD u), .im (.list ((rows S u k).map (rowD ts u))), s7, s8, s9, t0, t1, t2] ∧ m + k = 23 ∧ Bst S ts b (fun R => D0 R ∨ ∃ k' < k, ∃ p ∈ rows S u k', Cls S u p R)) 23
        ⟨0, b, _, _, _, _, _, _, _, rfl, rfl, bs.mono fun R h => h.elim id fun ⟨k', z, _⟩ => absurd z (Nat.not_lt_zero _)⟩ ?_
      rintro m Γ' ⟨k, b, s4, s7, s8, s9, t0, t1, t2, rfl, mk, bs⟩
      refine ⟨fun z => z = decide (rows S u k ≠ []), et_eq (et_test (ev_op (ev_var rfl) (ev_lst ea_nil) (opd_ne (n := 4) (m := 1) (pl_rows ts u _) rfl (by decide) (by decide)))) (by cases rows S u k <;> rfl), fun e => ?_, fun e => ?_⟩
      · have ne : rows S u k ≠ [] := of_decide_eq_true e.symm
        have k23 : k < 23 := by
          rcases Nat.lt_or_ge k 23 with z | z
          · exact z
          · have : k = 23 := by omega
            subst this
            exact absurd (rows_end h22 u) ne
        refine wp_seq (wp_setS evs_nil ?_)
        refine wp_seq (wp_forL (Pl := fun _ => True) (ds := (rows S u k).map (rowD ts u)) (fun j Γ => ∃ b s4 s8 s9 t0 t1 t2, Γ = [.im (.list (S.map stepD)), .im (marksD ts), .dn (nearE S V), .im (pI b), s4, .im (ndD u), .im (.list ((rows S u k).map (rowD ts u))), .ml ((((rows S u k).take j).flatMap (ext S u)).map (rowD ts u)), s8, s9, t0, t1, t2] ∧ Bst S ts b (fun R => (D0 R ∨ ∃ k' < k, ∃ p ∈ rows S u k', Cls S u p R) ∨ ∃ p ∈ (rows S u k).take j, Cls S u p R)) (ev_var rfl)
          ⟨b, _, _, _, _, _, _, rfl, bs.mono fun R h => h.elim id fun ⟨p, z, _⟩ => by rw [List.take_zero] at z; cases z⟩ (fun j d Γ' hd ⟨b, s4, s8, s9, t0, t1, t2, e, bs⟩ => ?_) (fun Γ' ⟨b, s4, s8, s9, t0, t1, t2, e, bs⟩ => ?_))
        · subst e
          obtain ⟨p, hp, rfl⟩ := map_get hd
          have pm := List.mem_of_getElem? hp
          have vp := rows_ok S u k p pm
          generalize hD1 : (fun R : List Step => (D0 R ∨ ∃ k' < k, ∃ p ∈ rows S u k', Cls S u p R) ∨ ∃ p ∈ (rows S u k).take j, Cls S u p R) = D1 at bs
          refine tg_tup rfl (bts_name (bts_name (bts_name (bts_name (bts_nil ?_)))))
          refine wp_forL (Pl := fun _ => True) (ds := (outs S (pend u p)).map stepD) (fun l Γ => ∃ b s4 t2, Γ = [.im (.list (S.map stepD)), .im (marksD ts), .dn (nearE S V), .im (pI b), s4, .im (ndD u), .im (.list ((rows S u k).map (rowD ts u))), .ml (((((rows S u k).take j).flatMap (ext S u)) ++ (((outs S (pend u p)).take l).filter (goOn u p)).map fun s => p ++ [s]).map (rowD ts u)), .im (ndD (pend u p)), .im (.tuple ((u :: p.map Step.dst).map ndD)), .im (.int (tsum ts p)), .im (.int (lsum p)), t2] ∧ Bst S ts b (fun R => D1 R ∨ ∃ s ∈ (outs S (pend u p)).take l, s.dst = u ∧ R = p ++ [s])) (en rfl (ev_var rfl))
            ⟨b, _, _, by rw [List.take_zero, List.filter_nil, List.map_nil, List.append_nil]; rfl, bs.mono fun R h => h.elim id fun ⟨s, z, _⟩ => by rw [List.take_zero] at z; cases z⟩ (fun l d Γ' hd ⟨b, s4, t2, e, bs⟩ => ?_) (fun Γ' ⟨b, s4, t2, e, bs⟩ => ?_)
          · subst e
            obtain ⟨s, hs, rfl⟩ := map_get hd
            have sm := List.mem_of_getElem? hs
            obtain ⟨sS, se⟩ := mem_outs.mp sm
            obtain ⟨w1, w2⟩ := vp.walk1 sm
            have ok := (G.ok s sS).1
            have tk : (outs S (pend u p)).take (l + 1) = (outs S (pend u p)).take l ++ [s] := by rw [List.take_add_one, hs]; rfl
            have ok' : (pend u p).1 < ts.length := by rw [← se]; exact ok
            have et : ∀ {B : Bs} {Γ : List Sk}, Γ[10]? = some (.im (.int (tsum ts p))) → Γ[1]? = some (.im (marksD ts)) → Γ[8]? = some (.im (ndD (pend u p))) → Ev B (tOp (rI0 fun i j => .int (i + j)) (tVar 10) (tOp (rIx K) (tVar 1) (tOp (rIx K) (tVar 8) (tC (.int 0))))) Γ (.int (tsum ts (p ++ [s]))) := fun h1 h2 h3 => ev_eq (ev_op (ev_var h1) (ev_ixNT (ev_var h2) (ev_op (ev_var h3) ev_int (opd_ixT rfl)) (rv_get ok')) opd_add) (by unfold tsum; rw [gsum_one, ← se])
            have el : ∀ {B : Bs} {Γ : List Sk}, Γ[11]? = some (.im (.int (lsum p))) → Γ[4]? = some (.im (stepD s)) → Ev B (tOp (rI0 fun i j => .int (i + j)) (tVar 11) (tOp (rIx K) (tVar 4) (tC (.int 2)))) Γ (.int (lsum (p ++ [s]))) := fun h1 h2 => ev_eq (ev_op (ev_var h1) (ev_op (ev_var h2) ev_int (opd_ixT rfl)) opd_add) (by unfold lsum; rw [gsum_one])
            have ed : ∀ {B : Bs} {Γ : List Sk}, Γ[4]? = some (.im (stepD s)) → Ev B (tOp (rIx K) (tVar 4) (tC (.int 1))) Γ (ndD s.dst) := fun h => ev_op (ev_var h) ev_int (opd_ixT rfl)
            refine tg_name (wp_ifD (et_eq (et_test (ev_op (ed rfl) (ev_var rfl) (opd_eq (n := 1) (m := 1) rfl rfl (by decide) (by decide)))) (eqv_nd s.dst u)) (fun c => ?_) (fun c => ?_))
            · have c := of_decide_eq_true c
              have nx : goOn u p s = false := by simp [goOn, c]
              have cw : Walk u (p ++ [s]) u := by have := w1; rw [c] at this; exact this
              have hl := G.pos u (p ++ [s]) cw (by simp) w2
              have lb : lsum (p ++ [s]) < 1073741824 := by
                have z := gsum_bd (g := fun s => s.lag) (M := 500) (R := p ++ [s]) fun s hs => G.lag s (w2 s hs)
                rw [List.length_append, vp.len, List.length_singleton] at z
                unfold lsum
                omega
              have nb : BOk S ts (rd (tsum ts (p ++ [s])) (lsum (p ++ [s]))) := .inr ⟨u, p ++ [s], cw, by simp, w2, rfl, by rw [List.length_append, vp.len, List.length_singleton]; omega⟩
              obtain ⟨bb1, bb2⟩ := bs.1.bd G
              obtain ⟨nb1, nb2⟩ := nb.bd G
              obtain ⟨u1, u2⟩ := best_up (ts := ts) bb1 hl
              refine wp_seq (wp_set (ev_callA ((tsum ts (p ++ [s]), lsum (p ++ [s])) : Int × Int) (ea_cons (et rfl rfl rfl) (ea_cons (el rfl rfl) ea_nil)) rfl (by exact ⟨hl, lb⟩)) ?_)
              refine wp_set (d := pI (if b.1 * (rd (tsum ts (p ++ [s])) (lsum (p ++ [s]))).2 < (rd (tsum ts (p ++ [s])) (lsum (p ++ [s]))).1 * b.2 then rd (tsum ts (p ++ [s])) (lsum (p ++ [s])) else b)) (ev_eq (ev_if (et_B (ev_callA ((b, rd (tsum ts (p ++ [s])) (lsum (p ++ [s]))) : (Int × Int) × (Int × Int)) (ea_cons (ev_var rfl) (ea_cons (ev_var rfl) ea_nil)) rfl (by exact ⟨bb2, nb2⟩))) (fun _ => ev_var rfl) (fun _ => ev_var rfl)) ?_) ?_
              · show (if decide _ = true then _ else _) = _
                by_cases z : b.1 * (rd (tsum ts (p ++ [s])) (lsum (p ++ [s]))).2 < (rd (tsum ts (p ++ [s])) (lsum (p ++ [s]))).1 * b.2
                · rw [if_pos z, if_pos (decide_eq_true z)]
                · rw [if_neg z, if_neg (by rw [decide_eq_false z]; exact Bool.false_ne_true)]
              · refine ⟨_, _, _, by rw [tk, List.filter_append, List.filter_cons, nx, List.filter_nil]; simp only [Bool.false_eq_true, if_false, List.append_nil]; rfl, ?_, fun R h => ?_⟩
                · split
                  · exact nb
                  · exact bs.1
                · rcases h with h | ⟨s', hs', e1, e2⟩
                  · exact u2 R (bs.2 R (.inl h))
                  · rw [tk] at hs'
                    rcases List.mem_append.mp hs' with z | z
                    · exact u2 R (bs.2 R (.inr ⟨s', z, e1, e2⟩))
                    · rw [List.mem_singleton.mp z] at e2
                      rw [e2]
                      exact u1
            · have c := of_decide_eq_false c
              have keep : Bst S ts b (fun R => D1 R ∨ ∃ s ∈ (outs S (pend u p)).take (l + 1), s.dst = u ∧ R = p ++ [s]) := bs.mono fun R h => h.elim .inl fun ⟨s', hs', e1, e2⟩ => by
                rw [tk] at hs'
                rcases List.mem_append.mp hs' with z | z
                · exact .inr ⟨s', z, e1, e2⟩
                · rw [List.mem_singleton.mp z] at e1
                  exact absurd e1 c
              refine wp_ifD (et_eq (et_and (et_test (ev_op (ed rfl) (ev_var rfl) (opd_notInT (n := 1) (m := 2) rfl (pl_nds _) (by decide) (by decide)))) fun _ => et_test (ev_op (ed rfl) (ev_var rfl) (opd_gt2 (n := 1) (m := 1) rfl rfl (by decide) (by simp [W.alike, W.alikeAll]) (by simp)))) (d' := goOn u p s) (by rw [any_nds, lt_nd]; rfl)) (fun go => ?_) (fun go => wp_next ?_)
              · refine wp_append rfl (ev_eq (ev_tup (ea_cons (ed rfl) (ea_cons (ev_op (ev_var rfl) (ev_tup (ea_cons (ed rfl) ea_nil)) (opd_catT (by simp only [List.length_map, List.length_cons, List.length_nil]; rw [vp.len]; omega))) (ea_cons (et rfl rfl rfl) (ea_cons (el rfl rfl) ea_nil))))) (d' := rowD ts u (p ++ [s])) ?_) (by rw [List.length_map]; have := part_len h22 u k (j := l) hp; omega) fun d e => ?_
                · unfold rowD
                  rw [pend_snoc, List.map_append, ← List.cons_append, List.map_append]
                  rfl
                · subst e
                  refine ⟨b, _, _, set_ml (b := ((((rows S u k).take j).flatMap (ext S u)) ++ (((outs S (pend u p)).take (l + 1)).filter (goOn u p)).map fun s => p ++ [s]).map (rowD ts u)) ?_ rfl, keep⟩
                  rw [tk, List.filter_append, List.filter_cons, go, List.filter_nil, if_pos rfl, List.map_append (f := fun s => p ++ [s]), ← List.append_assoc, List.map_append (l₂ := [s].map _)]
                  rfl
              · exact ⟨b, _, _, by rw [tk, List.filter_append, List.filter_cons, go, List.filter_nil]; simp only [Bool.false_eq_true, if_false, List.append_nil]; rfl, keep⟩
          · subst e
            rw [List.length_map, List.take_length] at bs
            have tk : (rows S u k).take (j + 1) = (rows S u k).take j ++ [p] := by rw [List.take_add_one, hp]; rfl
            refine ⟨b, _, _, _, _, _, _, by rw [List.length_map, List.take_length, tk, List.flatMap_append, List.flatMap_cons, List.flatMap_nil, List.append_nil]; rfl, bs.mono fun R h => ?_⟩
            rcases h with h | ⟨p', hp', h⟩
            · exact .inl (by rw [← hD1]; exact .inl h)
            · rw [tk] at hp'
              rcases List.mem_append.mp hp' with z | z
              · exact .inl (by rw [← hD1]; exact .inr ⟨p', z, h⟩)
              · rw [List.mem_singleton.mp z] at h
                exact .inr h
        · subst e
          rw [List.length_map, List.take_length] at bs
          refine wp_freeze (i := 7) rfl rfl (wp_set (ev_var rfl) ?_)
          refine ⟨22 - k, by omega, k + 1, b, _, _, _, _, _, _, _, by rw [List.length_map, List.take_length]; rfl, by omega, bs.mono fun R h => ?_⟩
          rcases h with h | ⟨k', hk, h⟩
          · exact .inl (.inl h)
          · by_cases z : k' = k
            · rw [z] at h
              exact .inr h
            · exact .inl (.inr ⟨k', by omega, h⟩)
      · have nil : rows S u k = [] := Classical.byContradiction fun z => by rw [decide_eq_true z] at e; cases e
        refine ⟨b, _, _, _, _, _, _, _, _, _, rfl, bs.mono fun R ⟨v, hv, k', p, hp, h⟩ => ?_⟩
        rw [eV, ← List.map_take] at hv
        obtain ⟨v', hv', ev⟩ := List.mem_map.mp hv
        have := nd_inj _ _ ev
        subst this
        rw [List.take_add_one, hu] at hv'
        rcases List.mem_append.mp hv' with z | z
        · refine .inl ?_
          rw [← hD0]
          exact ⟨v', by rw [eV, ← List.map_take]; exact List.mem_map.mpr ⟨v', z, rfl⟩, k', p, hp, h⟩
        · have : v' = u := by simpa using z
          subst this
          rcases Nat.lt_or_ge k' k with z | z
          · exact .inr ⟨k', z, p, hp, h⟩
          · have := rows_nil nil (k' - k)
            rw [show k + (k' - k) = k' by omega] at this
            rw [this] at hp
            cases hp
    · subst e
      rw [List.take_length] at bs
      refine wp_retD (ev_var rfl) ?_
      obtain ⟨u0, hw⟩ := sl.1
      obtain ⟨R', pm, u', p, s, e1, h1, h2, h3, t, ht, e2⟩ := ring_found hw sl.2.1 sl.2.2.1 sl.2.2.2.1
      have dm : Dm ts b R' := bs.2 R' ⟨u', by rw [eV]; exact List.mem_map.mpr ⟨u', pV.mem_iff.mpr (by rw [← e2]; exact m2 t ht), rfl⟩, p.length, p, h1, s, h2, h3, e1⟩
      show pI b = pI _
      rw [best_eq G bs.1 (dm.perm pm) sl hL]
end
end Dl
set_option Elab.async false
set_option linter.all false
set_option maxRecDepth 100000
set_option maxHeartbeats 1000000
/-! Sets 1: sets of nested tuples, the search. -/
namespace Dl
open PySem PySem.Spec PyProof.Rows L2
section
variable {P : Program} {w : World} {A : Around} {E : Value → Shared → Prop} {s : Shared}
theorem nall_mem {h : Heap} : ∀ {ks : List NestedKey} {vs : List Value}, NestedAll h ks vs → ∀ v ∈ vs, ∃ k, NestedIs h k v ∧ k.depth ≤ NestedKey.depthAll ks
  | [], _, z, v, hv => by cases z; cases hv
  | k :: ks, _, .cons z1 z2, v, hv => by
    rcases List.mem_cons.mp hv with e | hv
    · exact ⟨k, e ▸ z1, by simp only [NestedKey.depthAll]; omega⟩
    · obtain ⟨k', h1, h2⟩ := nall_mem z2 v hv
      exact ⟨k', h1, by simp only [NestedKey.depthAll]; omega⟩
/-- a nested key tells no class -/
theorem nclass : ∀ (n : Nat) {k : NestedKey} {v : Value} {s : Shared} {Q : Bool → Shared → Prop}, NestedIs s.heap k v → k.depth ≤ n → Q false s → wpAny (model P w) A (ofAClassStatement n v) Q E s := by
  intro n
  induction n with
  | zero =>
    intro k v s Q hv hn q
    cases hv with
    | tup => simp only [NestedKey.depth] at hn; omega
    | _ => exact wpAny_pure q
  | succ n ih =>
    intro k v s Q hv hn q
    cases hv with
    | @tup a o vs m ks h1 h2 h3 h4 =>
      simp only [NestedKey.depth] at hn
      unfold ofAClassStatement
      refine wpAny_bind (wpAny_typeOf (T := "tuple") ⟨_, h1, h2⟩ ?_)
      simp only [show (("tuple" : String) == "tuple") = true from by decide, if_true]
      refine wpAny_bind (wpAny_pure ?_)
      simp only [Bool.not_true, Bool.false_eq_true, if_false]
      refine wpAny_bind (wpAny_seqItems h1 h3 (wpAny_bind ?_))
      rw [← Array.forIn_toList]
      have al0 : ∀ y ∈ vs.toList, ∃ k, NestedIs s.heap k y ∧ k.depth ≤ n := fun y hy => by
        obtain ⟨k', c1, c2⟩ := nall_mem h4 y hy
        exact ⟨k', c1, by omega⟩
      refine wpAny_forIn_list _ (fun more r s' => r.1 = none ∧ s' = s ∧ ∀ y ∈ more, ∃ k, NestedIs s.heap k y ∧ k.depth ≤ n) _ ?_ ?_ _ _ ⟨rfl, rfl, al0⟩
      · rintro y more r s' ⟨_, es, al⟩
        subst es
        obtain ⟨k', c1, c2⟩ := al y List.mem_cons_self
        refine wpAny_bind (ih c1 c2 ?_)
        exact wpAny_pure ⟨rfl, rfl, fun u hu => al u (List.mem_cons_of_mem _ hu)⟩
      · rintro ⟨r1, r2⟩ s' ⟨e1, es, _⟩
        subst es
        cases e1
        exact wpAny_pure q
    | _ => exact wpAny_pure q
/-- and is hashed by its value, when it holds no texts -/
theorem nhash : ∀ (n : Nat) {d : PyData} {v : Value} {s : Shared} {Q : Bool → Shared → Prop}, NestedIs s.heap (nkOf d) v → Tp n d = true → Q true s → wpAny (model P w) A (hashByValue n v) Q E s := by
  intro n
  induction n with
  | zero =>
    intro d v s Q hv hn q
    cases d with
    | int i => cases hv <;> exact wpAny_pure q
    | _ => simp [Tp] at hn
  | succ n ih =>
    intro d v s Q hv hn q
    cases d with
    | int i => cases hv <;> exact wpAny_pure q
    | tuple ds =>
      simp only [nkOf] at hv
      cases hv with
      | @tup a o vs m ks h1 h2 h3 h4 =>
        unfold hashByValue
        refine wpAny_bind (wpAny_specialOf (T := "tuple") ⟨_, h1, h2⟩ F.slot_tuple_hash.lookup ?_)
        refine (wpAny_bind (wpAny_seqItems h1 h3 ?_) : wpAny _ _ (seqItems? _ >>= _) _ _ _)
        refine wpAny_bind (?_ : wpAny _ _ (forIn vs _ _) _ _ _)
        rw [← Array.forIn_toList]
        have al : ∀ {ds : List PyData} {vs : List Value}, ds.all (Tp n) = true → NestedAll s.heap (nksOf ds) vs → ∀ y ∈ vs, ∃ d, NestedIs s.heap (nkOf d) y ∧ Tp n d = true := by
          intro ds
          induction ds with
          | nil =>
            intro vs _ hn y hy
            simp only [nksOf] at hn
            cases hn
            cases hy
          | cons d ds ih2 =>
            intro vs tp hn y hy
            rw [List.all_cons, Bool.and_eq_true] at tp
            simp only [nksOf] at hn
            cases hn with
            | cons z1 z2 =>
              rcases List.mem_cons.mp hy with e | hy
              · exact ⟨d, e ▸ z1, tp.1⟩
              · exact ih2 tp.2 z2 y hy
        refine wpAny_forIn_list _ (fun more r s' => r.1 = none ∧ s' = s ∧ ∀ y ∈ more, ∃ d, NestedIs s.heap (nkOf d) y ∧ Tp n d = true) _ ?_ ?_ _ _ ⟨rfl, rfl, al (by simpa [Tp] using hn) h4⟩
        · rintro y more r s' ⟨_, es, al⟩
          subst es
          obtain ⟨d', c1, c2⟩ := al y List.mem_cons_self
          refine wpAny_bind (ih c1 c2 ?_)
          exact wpAny_pure ⟨rfl, rfl, fun u hu => al u (List.mem_cons_of_mem _ hu)⟩
        · rintro ⟨r1, r2⟩ s' ⟨e1, es, _⟩
          subst es
          cases e1
          exact wpAny_pure q
    | _ => simp [Tp] at hn
/-- no search among such keys shows anything -/
theorem nseen {k : NestedKey} {b : Addr} {Q : Bool → Shared → Prop} (hk : (nestedKind P w).is s.heap k b) {ys : List Value} (hy : ∀ y ∈ ys, ∃ k' c, y = Value.ref c ∧ (nestedKind P w).is s.heap k' c) (q : Q false s) :
    wpAny (model P w) A (searchCouldBeSeen (.ref b) ys) Q E s := by
  unfold searchCouldBeSeen
  refine wpAny_bind (wpAny_forIn_list _ (fun more r s' => r.1 = none ∧ s' = s ∧ ∀ y ∈ more, ∃ k' c, y = Value.ref c ∧ (nestedKind P w).is s.heap k' c) _ (fun y more r s' ⟨_, es, al⟩ => ?_) (fun r s' ⟨e1, es, _⟩ => ?_) _ _ ⟨rfl, rfl, hy⟩)
  · subst es
    obtain ⟨k', c, rfl, hc⟩ := al y List.mem_cons_self
    have next : ∀ u ∈ more, ∃ k' c, u = Value.ref c ∧ (nestedKind P w).is s'.heap k' c := fun u hu => al u (List.mem_cons_of_mem _ hu)
    dsimp only
    by_cases very : (b == c || (carriedByValue (.ref b) && carriedByValue (.ref c))) = true
    · exact wp_if_pos very (wpAny_pure ⟨rfl, rfl, next⟩)
    · refine wp_if_neg very (wpAny_bind ((nestedKind P w).quiet hk ?_))
      simp only [Bool.not_true, Bool.false_eq_true, if_false]
      refine wpAny_bind ((nestedKind P w).quiet hc ?_)
      simp only [Bool.not_true, Bool.false_eq_true, if_false]
      refine wpAny_bind (nclass 8 hk.1 hk.2 ?_)
      simp only [Bool.false_eq_true, if_false]
      refine wpAny_bind (nclass 8 hc.1 hc.2 ?_)
      simp only [Bool.false_eq_true, if_false]
      exact wpAny_pure ⟨rfl, rfl, next⟩
  · subst es
    obtain ⟨r1, r2⟩ := r
    cases e1
    exact wpAny_pure q
end
end Dl
set_option Elab.async false
set_option linter.all false
set_option maxRecDepth 100000
set_option maxHeartbeats 1000000
/-! Sets 2: searching and adding. -/
namespace Dl
open PySem PySem.Spec PyProof.Rows L2
abbrev Place : Type := Addr × PyData
abbrev rowN (w : World) (p : Place) : Int × Value := ((nkOf p.2).hash w, Value.ref p.1)
/-- the set at a: rows of L's keys -/
structure Nst (w : World) (h : Heap) (a : Addr) (L : List Place) (es : Array (Int × Value)) (ep : Nat) (t : SetTable) : Prop where
  ob : ∃ o, h.get? a = some o ∧ o.ExactSet ∧ o.data = .set es ep t
  sub : ∀ e ∈ es.toList, ∃ p ∈ L, e = rowN w p
  tab : TabOk t (es.toList.map (·.1))
  pl : t.plain = true
  ld : w.params.followText "set-order" = true ∨ t.led = true
  rm : es.size * 5 < t.mask * 3
  fw : es.size < 64
theorem fits_of {es : Array (Int × Value)} {t : SetTable} (hp : t.place.size = es.size) (hd : t.dummies = #[]) (hm : es.size ≤ t.mask) : t.fits es.size = true := by
  unfold SetTable.fits SetTable.fill
  rw [hd, Bool.and_eq_true, beq_iff_eq, decide_eq_true_eq]
  exact ⟨hp, by show t.place.size + 0 ≤ _; omega⟩
section
variable {P : Program} {w : World} {A : Around} {E : Value → Shared → Prop} {s : Shared} {a : Addr} {L : List Place} {es : Array (Int × Value)} {ep : Nat} {t : SetTable}
theorem Nst.psz {h : Heap} (R : Nst w h a L es ep t) : t.place.size = es.size := by
  have := R.tab.sz
  rw [List.length_map, Array.length_toList] at this
  exact this
theorem Nst.fits {h : Heap} (R : Nst w h a L es ep t) : t.fits es.size = true := fits_of R.psz R.tab.dm (by have := R.rm; omega)
theorem Nst.up {h h' : Heap} (R : Nst w h a L es ep t) (k : ∀ o, h.get? a = some o → h'.get? a = some o) : Nst w h' a L es ep t :=
  ⟨let ⟨o, ho, q⟩ := R.ob; ⟨o, k o ho, q⟩, R.sub, R.tab, R.pl, R.ld, R.rm, R.fw⟩
abbrev st0 (m : Nat) (h : Int) : SetTable.Probe := runAt m (SetTable.bits h % (m + 1)) (SetTable.bits h)
theorem nth_dummy (m : Nat) : ∀ (n : Nat) (p : SetTable.Probe), p.dummy = none → (nth m p n).dummy = none
  | 0, _, h => h
  | n + 1, p, h => nth_dummy m n (adv m p) (by unfold adv; split <;> exact h)
abbrev Ks (P : Program) (w : World) (h : Heap) (L : List Place) : Prop := ∀ p ∈ L, (nestedKind P w).is h (nkOf p.2) p.1
theorem nsearch (R : Nst w s.heap a L es ep t) (hk : Ks P w s.heap L) {x : Addr} {k : NestedKey} (hx : (nestedKind P w).is s.heap k x) (hu : (nestedKind P w).room A) {K : Nat} (hf0 : K < 10 * SetTable.turns t.mask)
    (h1 : way t.mask (k.hash w) K ∉ t.place.toList) (h2 : ∀ c, c < K → way t.mask (k.hash w) c ∈ t.place.toList) {Q : SetFound → Shared → Prop}
    (yes : (∃ p ∈ L, rowN w p ∈ es.toList ∧ nkOf p.2 = k) → Q (.there none) s) (no : Q (.free (way t.mask (k.hash w) K) false) s) :
    ∀ (f c : Nat) (from_ : Option SetTable.Probe), from_.getD (t.probeStart (k.hash w)) = nth t.mask (st0 t.mask (k.hash w)) c → c ≤ K → K - c < f → wpAny (model P w) A (setSearchFrom a (.ref x) (k.hash w) true f from_) Q E s
  | 0, c, _, _, _, hf => absurd hf (Nat.not_lt_zero _)
  | f + 1, c, from_, hst, hc, hf => by
    obtain ⟨o, hob, _, hdat⟩ := R.ob
    generalize hh : k.hash w = hv at *
    rw [setSearchFrom_succ]
    refine wpAny_bind (wpAny_setState_of hob hdat R.fits ?_)
    dsimp only
    have gw : ¬ t.gaveWay = true := by
      unfold SetTable.gaveWay
      rw [mask_odd R.tab.mok]
      decide
    refine wp_if_neg gw ?_
    try refine wpAny_bind (wpAny_pure ?_)
    have ej : ∀ q, (nth t.mask (nth t.mask (st0 t.mask hv) c) q).j = way t.mask hv (c + q) := fun q => congrArg SetTable.Probe.j (nth_add t.mask c _ q).symm
    have asked := go_spec t R.tab.ris R.tab.dm (fun i => (es[i]?.map (·.1)).getD 0) hv (10 * SetTable.turns t.mask) (K - c) (nth t.mask (st0 t.mask hv) c) (nth_dummy _ c _ rfl) (by omega)
      (fun q hq => by rw [ej]; exact h2 (c + q) (by omega)) (by rw [ej, show c + (K - c) = K by omega]; exact h1)
    rcases asked with ⟨q, i, hq, hi, hhv, _, hpr⟩ | ⟨_, hpr⟩
    · have probe : t.probe (fun i => (es[i]?.map (·.1)).getD 0) hv (from_.getD (t.probeStart hv)) = some (.candidate (way t.mask hv (c + q)) i (nth t.mask (st0 t.mask hv) (c + (q + 1)))) := by
        rw [hst, ← ej, nth_add t.mask c _ (q + 1)]
        exact hpr
      rw [probe]
      dsimp only
      rw [ej] at hi
      have il : i < es.size := by
        have z := (List.getElem?_eq_some_iff.mp hi).1
        rw [Array.length_toList, R.psz] at z
        exact z
      have hes : es[i]? = some es[i] := Array.getElem?_eq_getElem il
      have hmem : es[i] ∈ es.toList := by simp
      obtain ⟨p, hpL, hpe⟩ := R.sub _ hmem
      rw [hpe] at hes hmem
      have onward : wpAny (model P w) A (searchRest a (.ref x) hv true f es t (way t.mask hv (c + q)) i (nth t.mask (st0 t.mask hv) (c + (q + 1)))) Q E s := by
        unfold searchRest
        rw [hes]
        dsimp only
        refine wpAny_bind (wpAny_holding ((nestedKind P w).eqBool hu (hk p hpL) hx ?_))
        refine wpAny_bind (wpAny_setState_of hob hdat R.fits ?_)
        dsimp only
        by_cases same : nkOf p.2 = k
        · exact wp_if_pos (by simp [same]) (wpAny_pure (yes ⟨p, hpL, hmem, same⟩))
        · refine wp_if_neg (by simp [same]) ?_
          try refine wpAny_bind (wpAny_pure ?_)
          rw [sameMem]
          dsimp only
          simp only [if_true, slot_live R.tab.ris hi, hes]
          refine wpAny_bind (wpAny_isSame_ref_self (wpAny_bind (wpAny_pure ?_)))
          simp only [if_true]
          refine wp_if_neg (by simp [same]) ?_
          subst hh
          exact nsearch R hk hx hu hf0 h1 h2 yes no f (c + (q + 1)) _ rfl (by omega) (by omega)
      by_cases led : t.led = true
      · refine wp_if_neg (by simp [led]) ?_
        try refine wpAny_bind (wpAny_pure ?_)
        exact onward
      · refine wp_if_pos (by simp [led]) (wpAny_bind (nseen hx (fun y hy => ?_) ?_))
        · obtain ⟨e, he, rfl⟩ := List.mem_map.mp hy
          have he1 : e ∈ es ∧ e.1 = hv := by simpa using he
          obtain ⟨p2, z1, z2⟩ := R.sub e (by simpa using he1.1)
          exact ⟨_, p2.1, by rw [z2], hk p2 z1⟩
        · refine wp_if_neg Bool.false_ne_true ?_
          try refine wpAny_bind (wpAny_pure ?_)
          exact onward
    · have probe : t.probe (fun i => (es[i]?.map (·.1)).getD 0) hv (from_.getD (t.probeStart hv)) = some (.empty (way t.mask hv K) none) := by
        have e2 : way t.mask hv K = (nth t.mask (nth t.mask (st0 t.mask hv) c) (K - c)).j := by rw [ej, show c + (K - c) = K by omega]
        rw [hst, e2]
        exact hpr
      rw [probe]
      exact wpAny_pure no
/-- as adding asks -/
theorem nsearch0 (R : Nst w s.heap a L es ep t) (hk : Ks P w s.heap L) {x : Addr} {k : NestedKey} (hx : (nestedKind P w).is s.heap k x) (hu : (nestedKind P w).room A) {Q : SetFound → Shared → Prop}
    (yes : (∃ p ∈ L, rowN w p ∈ es.toList ∧ nkOf p.2 = k) → Q (.there none) s)
    (no : ∀ K, way t.mask (k.hash w) K ∉ t.place.toList → (∀ c, c < K → way t.mask (k.hash w) c ∈ t.place.toList) → Q (.free (way t.mask (k.hash w) K) false) s) : wpAny (model P w) A (setSearch a (.ref x) (k.hash w) true) Q E s := by
  obtain ⟨K, k1, k2, k3⟩ := R.tab.first (by rw [List.length_map, Array.length_toList]; have := R.rm; omega) (k.hash w)
  unfold setSearch
  refine nsearch R hk hx hu k1 k2 k3 yes (no K k2 k3) 100000 0 none rfl (Nat.zero_le _) ?_
  have : 10 * SetTable.turns t.mask ≤ 1420 := by
    unfold SetTable.turns
    rcases R.tab.mok with e | e | e <;> omega
  omega
/-! ### laying the table anew -/
theorem picked (es : Array (Int × Value)) (order : Array Nat) (hp : order.toList.Perm (List.range es.size)) :
    (order.filterMap (es[·]?)).size = es.size ∧ (∀ e, e ∈ (order.filterMap (es[·]?)).toList ↔ e ∈ es.toList) ∧ (order.filterMap (es[·]?)).toList.map (·.1) = order.toList.map fun i => (es.map (·.1)).getD i 0 := by
  have all : ∀ l : List Nat, (∀ i ∈ l, i < es.size) → ∃ g : List (Int × Value), l.filterMap (fun i => es[i]?) = g ∧ g.length = l.length ∧ g.map (·.1) = l.map (fun i => (es.map (·.1)).getD i 0) ∧ ∀ e, e ∈ g ↔ ∃ i ∈ l, es[i]? = some e := by
    intro l
    induction l with
    | nil => exact fun _ => ⟨[], rfl, rfl, rfl, by simp⟩
    | cons i l ih =>
      intro hl
      have il := hl i List.mem_cons_self
      obtain ⟨g, g1, g2, g3, g4⟩ := ih fun j hj => hl j (List.mem_cons_of_mem _ hj)
      have ei : es[i]? = some es[i] := Array.getElem?_eq_getElem il
      refine ⟨es[i] :: g, by rw [List.filterMap_cons_some ei, g1], by rw [List.length_cons, g2]; rfl, ?_, fun e => ?_⟩
      · rw [List.map_cons, List.map_cons, g3]
        congr 1
        simp [Array.getD_eq_getD_getElem?, ei]
      · rw [List.mem_cons, g4]
        constructor
        · rintro (z | ⟨j, hj, z⟩)
          · exact ⟨i, List.mem_cons_self, by rw [ei, z]⟩
          · exact ⟨j, List.mem_cons_of_mem _ hj, z⟩
        · rintro ⟨j, hj, z⟩
          rcases List.mem_cons.mp hj with y | y
          · subst y
            rw [ei] at z
            exact .inl (Option.some.inj z).symm
          · exact .inr ⟨j, y, z⟩
  obtain ⟨g, g1, g2, g3, g4⟩ := all order.toList fun i hi => List.mem_range.mp (hp.mem_iff.mp hi)
  have tl : (order.filterMap (es[·]?)).toList = g := by simpa using g1
  refine ⟨?_, fun e => ?_, by rw [tl, g3]⟩
  · rw [← Array.length_toList, tl, g2, hp.length_eq, List.length_range]
  · rw [tl, g4]
    constructor
    · rintro ⟨i, _, z⟩
      exact List.mem_of_getElem? (by rw [Array.getElem?_toList]; exact z)
    · intro z
      obtain ⟨i, hi, e⟩ := List.getElem_of_mem z
      rw [Array.length_toList] at hi
      exact ⟨i, hp.mem_iff.mpr (List.mem_range.mpr hi), by rw [← e]; simp [hi]⟩
/-- the keys' tuples are no set -/
theorem ks_same {h h' : Heap} {o : Obj} {k : NestedKey} {b : Addr} (x : (nestedKind P w).is h k b) (ho : h.get? a = some o) (hd : o.data = .set es ep t) (sb : Heap.SameBut a h h') : (nestedKind P w).is h' k b :=
  ⟨NestedIs.at (fun c oc vs n g1 g2 => (sb.2 c fun z => by
    subst z
    rw [ho] at g1
    cases g1
    rw [hd] at g2
    cases g2).trans g1) _ _ x.1, x.2⟩
theorem nrelay {o : Obj} (ho : s.heap.get? a = some o) (hex : o.ExactSet) (hd : o.data = .set es ep t) (sub : ∀ e ∈ es.toList, ∃ p ∈ L, e = rowN w p) (hsz : t.place.size = es.size) (hdm : t.dummies = #[]) (hfl : es.size ≤ t.mask)
    (pl : t.plain = true) (ld : w.params.followText "set-order" = true ∨ t.led = true) (fw : es.size < 64) {n M : Nat} (hw : SetTable.sizeAbove n - 1 = M) (hM : MaskOk M) (hw2 : SetTable.sizeAbove n ≤ 128) (hn : es.size * 5 < M * 3) {Q : Unit → Shared → Prop}
    (q : ∀ h' es' ep' t', Heap.SameBut a s.heap h' → Nst w h' a L es' ep' t' → (∀ e, e ∈ es'.toList ↔ e ∈ es.toList) → es'.size = es.size → Q () { s with heap := h' }) : wpAny (model P w) A (setRelay a n) Q E s := by
  obtain ⟨t', order, e, hp, T, em, el, ep', _⟩ := relaid_ok t (hs := es.map (·.1)) (wanted := n) hw hM (by rw [Array.size_map]; omega)
  rw [Array.size_map] at hp
  obtain ⟨p1, p2, p3⟩ := picked es order hp
  rw [← p3] at T
  rw [setRelay_eq]
  refine wpAny_bind (wpAny_setState_of ho hd (fits_of hsz hdm hfl) ?_)
  dsimp only
  refine wp_if_neg (by rw [sizeLine_eq]; omega) ?_
  try refine wpAny_bind (wpAny_pure ?_)
  rw [e]
  dsimp only
  refine wpAny_bind (wp_if_neg (by rw [p1]; simp) ?_)
  try refine wpAny_bind (wpAny_pure ?_)
  refine wpAny_pure (wpAny_storeSet_of ho hd ?_ (by rw [p1, sizeLine_eq]; omega))
  exact q _ _ (ep + 1) t' (Heap.SameBut.update ..) ⟨⟨_, store_at ho hd, ⟨hex.1, hex.2.1, hex.2.2⟩, rfl⟩, fun e he => sub e ((p2 e).mp he), T, by rw [ep']; exact pl, by rw [el]; exact ld, by rw [p1, em]; exact hn, by rw [p1]; exact fw⟩ p2 p1
theorem tp_up : ∀ {n : Nat} {d : PyData}, Tp n d = true → Tp (n + 1) d = true := by
  intro n
  induction n with
  | zero => intro d h; cases d <;> simp [Tp] at h ⊢
  | succ n ih =>
    intro d h
    cases d with
    | tuple ds =>
      simp only [Tp, List.all_eq_true] at h ⊢
      exact fun x hx => ih (h x hx)
    | _ => simp [Tp] at h ⊢
/-- adding -/ 
theorem nadd (R : Nst w s.heap a L es ep t) (hk : Ks P w s.heap L) {p : Place} (hp : p ∈ L) (hT : Tp 7 p.2 = true) (hu : (nestedKind P w).room A) (hfew : es.size + 1 < 64) {Q : Bool → Shared → Prop}
    (q : ∀ b h' es' ep' t', Heap.SameBut a s.heap h' → Nst w h' a L es' ep' t' → (∀ e ∈ es.toList, e ∈ es'.toList) → (∃ p' ∈ L, rowN w p' ∈ es'.toList ∧ nkOf p'.2 = nkOf p.2) → (∀ e ∈ es'.toList, e ∈ es.toList ∨ e = rowN w p) → es'.size ≤ es.size + 1 → Q b { s with heap := h' }) :
    wpAny (model P w) A (setAddHashed a (.ref p.1) ((nkOf p.2).hash w)) Q E s := by
  obtain ⟨o, hob, hex, hdat⟩ := R.ob
  have rm := R.rm
  unfold setAddHashed
  refine wpAny_holding ?_
  rw [show (100000 : Nat) = Nat.succ 99999 from rfl, setAddHashedIn_succ]
  refine wpAny_bind (wpAny_setState_of hob hdat R.fits ?_)
  dsimp only
  refine wp_if_neg (by simp [byScan, Value.scannable]) ?_
  try refine wpAny_bind (wpAny_pure ?_)
  refine wpAny_bind (nsearch0 R hk (hk p hp) hu (fun there => wpAny_pure (q false s.heap es ep t (Heap.SameBut.refl a s.heap) R (fun _ z => z) there (fun _ z => .inl z) (Nat.le_succ _))) fun K f1 f2 => ?_)
  dsimp only
  refine wpAny_bind (wpAny_setState_of hob hdat R.fits ?_)
  dsimp only
  obtain ⟨q1, q2, q3, q4, q5, q6, q7, q8, q9⟩ := R.tab.put f1 f2
  rw [List.length_map, Array.length_toList] at q2 q9
  have pl1 : (t.put (way t.mask ((nkOf p.2).hash w) K)).1.plain = true := by rw [q6]; exact R.pl
  generalize hpt : t.put (way t.mask ((nkOf p.2).hash w) K) = pt at q1 q3 q4 q5 q6 q7 q8 q9 pl1 ⊢
  obtain ⟨t1, i⟩ := pt
  dsimp only at q1 q3 q4 q5 q6 q7 q8 q9 pl1 ⊢
  subst q1
  generalize hbl : SetTable.below t.place (way t.mask ((nkOf p.2).hash w) K) = i at q2 q3 ⊢
  have hashed : ∀ {Q' : Bool → Shared → Prop}, Q' true s → wpAny (model P w) A (hashByValue 8 (.ref p.1)) Q' E s := fun z => by
    have tp8 : Tp 8 p.2 = true := tp_up hT
    exact nhash 8 (hk p hp).1 tp8 z
  first
    | (refine wpAny_bind ?_; refine wp_if_pos pl1 (hashed ?_))
    | (refine wp_if_pos pl1 (wpAny_bind (hashed ?_)))
  simp only [if_true]
  have ins : (SetTable.insertAt es i ((nkOf p.2).hash w, Value.ref p.1)).toList = es.toList.take i ++ rowN w p :: es.toList.drop i := SetTable.toList_insertAt _ _ _
  have mem1 : ∀ e, e ∈ (SetTable.insertAt es i ((nkOf p.2).hash w, Value.ref p.1)).toList ↔ e = rowN w p ∨ e ∈ es.toList := fun e => by rw [ins]; exact mem_ins
  have sz1 : (SetTable.insertAt es i ((nkOf p.2).hash w, Value.ref p.1)).size = es.size + 1 := by
    rw [← Array.length_toList, ins, len_ins _ (by rw [Array.length_toList]; exact q2), Array.length_toList]
  have T1 : TabOk t1 ((SetTable.insertAt es i ((nkOf p.2).hash w, Value.ref p.1)).toList.map (·.1)) := by
    rw [ins, List.map_append, List.map_cons, List.map_take, List.map_drop]
    exact q3
  generalize SetTable.insertAt es i ((nkOf p.2).hash w, Value.ref p.1) = es1 at mem1 sz1 T1 ⊢
  refine wpAny_bind (wpAny_storeSet_of hob hdat ?_ (by rw [sz1, sizeLine_eq]; omega))
  have sb1 : Heap.SameBut a s.heap (s.heap.update a (Obj.putSet es1 t1)) := Heap.SameBut.update ..
  have ob1 := store_at (es' := es1) (t' := t1) hob hdat
  generalize s.heap.update a (Obj.putSet es1 t1) = h1 at sb1 ob1 ⊢
  have ld1 : w.params.followText "set-order" = true ∨ t1.led = true := by rw [q5]; exact R.ld
  have sub1 : ∀ e ∈ es1.toList, ∃ p ∈ L, e = rowN w p := fun e he => ((mem1 e).mp he).elim (fun z => ⟨p, hp, z⟩) (R.sub e)
  have psz1 : t1.place.size = es1.size := by
    have z := T1.sz
    rw [List.length_map, Array.length_toList] at z
    exact z
  have fill1 : t1.tooFull = decide ((es.size + 1) * 5 ≥ t1.mask * 3) := by unfold SetTable.tooFull; rw [q9]
  by_cases full : t1.tooFull = true
  · have big : (es.size + 1) * 5 ≥ t1.mask * 3 := by rw [fill1] at full; exact of_decide_eq_true full
    first
      | (refine wpAny_bind ?_; refine wp_if_pos (by simp [full]) ?_)
      | (refine wp_if_pos (by simp [full]) ?_; refine wpAny_bind ?_)
    have sizes : (t.mask = 7 ∧ es.size = 4) ∨ (t.mask = 31 ∧ es.size = 18) := by
      rcases R.tab.mok with e | e | e
      · left; rw [q4, e] at big; rw [e] at rm; exact ⟨e, by omega⟩
      · right; rw [q4, e] at big; rw [e] at rm; exact ⟨e, by omega⟩
      · exfalso; rw [q4, e] at big; omega
    have grow : ∀ M, SetTable.sizeAbove (SetTable.grown (es.size + 1)) - 1 = M → MaskOk M → SetTable.sizeAbove (SetTable.grown (es.size + 1)) ≤ 128 → (es.size + 1) * 5 < M * 3 →
        wpAny (model P w) A (setRelay a (SetTable.grown (es.size + 1))) (fun _ s' => wpAny (model P w) A (pure true) Q E s') E { s with heap := h1 } := fun M m1 m2 m3 m4 =>
      nrelay (s := { s with heap := h1 }) (L := L) ob1 ⟨hex.1, hex.2.1, hex.2.2⟩ rfl sub1 psz1 T1.dm (by rw [sz1, q4]; rcases sizes with ⟨y, z⟩ | ⟨y, z⟩ <;> omega) pl1 ld1 (by rw [sz1]; exact hfew) m1 m2 m3 (by rw [sz1]; exact m4) fun h2 es2 ep2 t2 sb2 R2 mem2 sz2 =>
        wpAny_pure (q true h2 es2 ep2 t2 (sb1.trans sb2) R2 (fun e z => (mem2 e).mpr ((mem1 e).mpr (.inr z))) ⟨p, hp, (mem2 _).mpr ((mem1 _).mpr (.inl rfl)), rfl⟩ (fun e z => ((mem1 e).mp ((mem2 e).mp z)).symm) (by rw [sz2, sz1]; exact Nat.le_refl _))
    rcases sizes with ⟨_, z⟩ | ⟨_, z⟩
    · exact grow 31 (by rw [z, size_20]) (.inr (.inl rfl)) (by rw [z, size_20]; decide) (by omega)
    · exact grow 127 (by rw [z, size_76]) (.inr (.inr rfl)) (by rw [z, size_76]; decide) (by omega)
  · first
      | refine wp_if_neg (by simp [full]) ?_
      | (refine wpAny_bind ?_; refine wp_if_neg (by simp [full]) ?_; refine wpAny_pure ?_)
    have small : ¬ (es.size + 1) * 5 ≥ t1.mask * 3 := fun z => full (by rw [fill1]; exact decide_eq_true z)
    exact wpAny_pure (q true h1 es1 (ep + 1) t1 sb1 ⟨⟨_, ob1, ⟨hex.1, hex.2.1, hex.2.2⟩, rfl⟩, sub1, T1, pl1, ld1, by rw [sz1]; omega, by rw [sz1]; exact hfew⟩ (fun e z => (mem1 e).mpr (.inr z)) ⟨p, hp, (mem1 _).mpr (.inl rfl), rfl⟩ (fun e z => ((mem1 e).mp z).symm) (by rw [sz1]; exact Nat.le_refl _))
end
end Dl
set_option Elab.async false
set_option linter.all false
set_option maxRecDepth 100000
set_option maxHeartbeats 4000000
/-! Sets 3: set(xs). -/
namespace Dl
open PySem PySem.Spec PyProof.Rows L2
/-- what lies in the set behind the first i places -/
structure Gt (w : World) (L : List Place) (i : Nat) (es : Array (Int × Value)) : Prop where
  all : ∀ p ∈ L.take i, ∃ p' ∈ L, rowN w p' ∈ es.toList ∧ nkOf p'.2 = nkOf p.2
  len : es.size ≤ i
abbrev Kp (h h' : Heap) : Prop := ∀ b o, h.get? b = some o → h'.get? b = some o
section
variable {P : Program} {w : World} {A : Around} {E : Value → Shared → Prop} {s : Shared}
theorem Ks.up {h h' : Heap} {L : List Place} (x : Ks P w h L) (k : Kp h h') : Ks P w h' L := fun p hp => ⟨NestedIs.at (fun a o _ _ z _ => k a o z) _ _ (x p hp).1, (x p hp).2⟩
abbrev nuO (w : World) : Obj := { cls := .type "set", dict := none, data := .set #[] 0 (.fresh 0 0 (!w.params.followText "set-order")) }
theorem nst_new {h : Heap} {a : Addr} {L : List Place} (ho : h.get? a = some (nuO w)) : Nst w h a L #[] 0 (.fresh 0 0 (!w.params.followText "set-order")) :=
  ⟨⟨_, ho, ⟨rfl, rfl, rfl⟩, rfl⟩, fun e he => (nomatch he), ⟨List.Pairwise.nil, rfl, rfl, .inl rfl, fun x hx => (nomatch hx), fun i h j hi => (by simp at hi)⟩, rfl,
    (by show _ ∨ (!w.params.followText "set-order") = true; cases w.params.followText "set-order"; exact .inr rfl; exact .inl rfl), (by show 0 * 5 < 7 * 3; decide), (by show 0 < 64; decide)⟩
/-- the loop of update -/
theorem nloop {I : Addr} {fp wr : List Addr} {G : Array GenState → Array GenState → Prop} {n : Nat} {Pv : Nat → Value → Prop} {St : Nat → Shared → Prop} {R : Result → Shared → Prop} (W : WalksS P w A.in1 I fp wr G n Pv St) (S : Addr) (fresh : S ∉ fp) (L : List Place)
    (hn : n = L.length) (few : L.length < 64) (val : ∀ i v, Pv i v → ∃ p, L[i]? = some p ∧ v = .ref p.1) (h0 : Heap) (hk : Ks P w h0 L) (hT : ∀ p ∈ L, Tp 7 p.2 = true) (none0 : h0.get? S = none) (nonew : ∀ b ∈ wr, h0.get? b = none) (hu : (nestedKind P w).room A.in1) :
    ∀ (m i : Nat) (s : Shared), n - i = m → i ≤ n → St i s → Kp h0 s.heap → (∃ es ep t, Nst w s.heap S L es ep t ∧ Gt w L i es) →
      (∀ s' es ep t, Moved (S :: wr) G s s' → Nst w s'.heap S L es ep t → Gt w L n es → Kp h0 s'.heap → R (.ok (.ret .none)) s') → codeAny (model P w) A (.builtin "set.update.loop" ⟨[.ref S, .ref I], []⟩) R s := by
  have notw : S ∉ wr := fun z => fresh (W.sub _ z)
  have wider : ∀ b ∈ wr, b ∈ S :: wr := fun b z => List.mem_cons_of_mem _ z
  have on : ∀ {s s' : Shared}, Moved wr G s s' → Kp h0 s.heap → Kp h0 s'.heap := fun mv kp b o e => mv.heap b o (fun z => by rw [nonew b z] at e; cases e) (kp b o e)
  intro m
  induction m with
  | zero =>
    intro i s em il st kp ⟨es, ep, t, N, g⟩ fin
    obtain rfl : i = n := by omega
    refine codeAny_builtin F.entry_set_update_loop ?_
    rw [Around.under_plainId F.plain_set_update_loop _]
    refine (wpAny_bind (W.done s _ _ st fun s' mv => ?_) : wpAny _ A.in1 (pyNext (.ref I) >>= _) _ _ s)
    refine (wpAny_pure ?_ : wpAny _ A.in1 (ret Value.none) _ _ s')
    exact fin s' es ep t (mv.mono wider) (N.up fun o e => mv.heap S o notw e) g (on mv kp)
  | succ m ih =>
    intro i s em il st kp ⟨es, ep, t, N, g⟩ fin
    have lt : i < n := by omega
    refine codeAny_builtin F.entry_set_update_loop ?_
    rw [Around.under_plainId F.plain_set_update_loop _]
    refine (wpAny_bind (W.item i s _ _ lt st fun v s' pv st' mv => ?_) : wpAny _ A.in1 (pyNext (.ref I) >>= _) _ _ s)
    obtain ⟨p, hp, rfl⟩ := val i v pv
    have pm := List.mem_of_getElem? hp
    have kp' := on mv kp
    have N' : Nst w s'.heap S L es ep t := N.up fun o e => mv.heap S o notw e
    have ks' := Ks.up hk kp'
    refine (wpAny_bind (wpAny_holding ?_) : wpAny _ A.in1 (holding [Value.ref p.1] (setAdd S (.ref p.1)) >>= _) _ _ s')
    unfold setAdd
    refine wpAny_holding (wpAny_bind ((nestedKind P w).pyHash hu (ks' p pm) ?_))
    refine nadd (s := { s' with toks := s'.toks + (nestedKind P w).draws (nkOf p.2) }) N' ks' pm (hT p pm) hu (by have := g.len; omega) fun b h' es' ep' t' sb N2 c1 c2 _ c4 => ?_
    have kp2 : Kp h0 h' := fun b o e => (sb.2 b (fun z => by rw [z, none0] at e; cases e)).trans (kp' b o e)
    have g' : Gt w L (i + 1) es' := by
      refine ⟨fun q hq => ?_, by have := g.len; omega⟩
      rw [List.take_add_one, hp] at hq
      rcases List.mem_append.mp hq with z | z
      · obtain ⟨p', h1, h2, h3⟩ := g.all q z
        exact ⟨p', h1, c1 _ h2, h3⟩
      · have : q = p := by simpa using z
        rw [this]
        exact c2
    refine wpAny_pure ⟨plainId_quiet F.plain_set_update_loop _, ih (i + 1) _ (by omega) lt (W.frame _ s' _ _ st' (Nat.le_add_right _ _) fun b hb o e => ?_) kp2 ⟨es', ep', t', N2, g'⟩ fun s2 es2 ep2 t2 mv2 N3 g3 kp3 => ?_⟩
    · exact (sb.2 b fun z => fresh (by rw [← z]; exact hb)).trans e
    · exact fin s2 es2 ep2 t2 (Moved.trans W.gtrans ((mv.mono wider).then_heap (Nat.le_add_right _ _) fun b o hb e => (sb.2 b fun z => hb (by rw [z]; exact List.mem_cons_self)).trans e) mv2) N3 g3 kp3
set_option maxHeartbeats 6400000 in
theorem ncall {l : Addr} {its : Array Value} (L : List Place) {Q : Value → Shared → Prop} (nh : A.handled = none) (hl : s.heap.IsList l its) (hit : its.toList = L.map fun p => Value.ref p.1) (hk : Ks P w s.heap L) (hT : ∀ p ∈ L, Tp 7 p.2 = true) (few : L.length < 64) (hu : A.units + 11 < cLine)
    (q : ∀ (h' : Heap) (tk : Nat) es ep t, Nst w h' s.heap.objs.size L es ep t → Gt w L L.length es → Kp s.heap h' → Q (.ref s.heap.objs.size) { s with heap := h', toks := tk }) : wpAny (model P w) A (call (.type "set") [.ref l]) Q E s := by
  have hsz : its.size = L.length := by
    have z := congrArg List.length hit
    rw [Array.length_toList, List.length_map] at z
    exact z
  obtain ⟨c, tl, hmro⟩ := F.called_set.mro
  have hmade := F.called_set.made
  have hsub := F.called_set.sub
  refine wpAny_call (codeAny_of_tree (?_ : wpAny _ _ (callAny (.type "set") _) _ _ _))
  refine wpAny_pure ⟨Code.quiet_builtin _ (by decide +kernel), codeAny_builtin F.entry_type_call ?_⟩
  rw [Around.under_plain (weight_type_call_type "set" [.ref l] []) rfl]
  have k1 := F.called_set.notType
  have k2 := F.called_set.canCreate
  have k3 := F.typeCall_set_1 (.ref l)
  repeat (any_goals (first | assumption | wp_step))
  refine codeAny_mono (code_set_led1 (.ref l) (E := E) (Q₁ := fun obj s₁ => obj = .ref s.heap.objs.size ∧ s₁ = { s with heap := s.heap.push (nuO w) }) ⟨rfl, rfl⟩) fun r s1 hr => ?_
  match r, hr with
  | .error e, hr => exact hr
  | .ok (.ret obj), hr =>
    obtain ⟨rfl, rfl⟩ := hr
    have made : (s.heap.push (nuO w)).get? s.heap.objs.size = some (nuO w) := Heap.get?_push_size _ rfl
    have isSet : Shared.TypeIs { s with heap := s.heap.push (nuO w) } (.ref s.heap.objs.size) "set" := ⟨_, made, rfl⟩
    have k4 := F.called_set.init.lookup
    have k5 := F.called_set.init.bind (.ref s.heap.objs.size)
    repeat (any_goals (first | assumption | wp_step))
    refine codeAny_mono (codeAny_call_builtin (R := wants (fun r s₂ => r = .none ∧ ∃ h' tk es ep t, s₂ = { s with heap := h', toks := tk } ∧ Nst w h' s.heap.objs.size L es ep t ∧ Gt w L L.length es ∧ Kp s.heap h') E) F.called_set.init.plain F.entry_set_init (check_set_init_1 isSet ?_)) fun r2 s2 hr2 => ?_
    · obtain ⟨⟨ocls, odict, odata, oslots⟩, hol, hcl, nl, hdl⟩ := hl
      simp only at hcl hdl
      subst hcl hdl
      have hol' : (s.heap.push (nuO w)).get? l = some { cls := .type "list", dict := odict, data := .seq its nl, slots := oslots } := Heap.get?_push_of_some _ hol
      have k6 := F.sub_list_set
      have k7 := F.sub_list_frozenset
      have k8 : (Value.type "list" == Value.type "dict") = false := by decide
      have list1 : (s.heap.push (nuO w)).IsList l its := ⟨_, hol', rfl, nl, rfl⟩
      unfold Builtin.«set.__init__» noKeywords Builtin.Frozenset.updateFrom
      generalize gPI : pyIter = PI
      wp_walk
      subst gPI
      refine wpAny_pyIter_list list1 (wpAny_bind (wpAny_runValue ?_))
      have lS : l < s.heap.objs.size := Heap.lt_size hol
      have nh3 : A.in1.in1.in1.handled = none := by simp [nh]
      have sz1 : (s.heap.push (nuO w)).objs.size = s.heap.objs.size + 1 := Heap.size_push ..
      have gone : ∀ b, s.heap.objs.size ≤ b → s.heap.get? b = none := fun b hb => by
        cases z : s.heap.get? b with
        | none => rfl
        | some o => exact absurd (Heap.lt_size z) (Nat.not_lt.mpr hb)
      have val : ∀ (i : Nat) (v : Value), its[i]? = some v → ∃ p, L[i]? = some p ∧ v = .ref p.1 := fun i v hv => by
        have z : its.toList[i]? = some v := by rw [Array.getElem?_toList]; exact hv
        rw [hit, List.getElem?_map] at z
        cases y : L[i]? with
        | none => rw [y] at z; cases z
        | some p => rw [y] at z; exact ⟨p, rfl, (Option.some.inj z).symm⟩
      have neI : l ≠ (s.heap.push (nuO w)).objs.size := fun z => absurd (z ▸ lS : (s.heap.push (nuO w)).objs.size < s.heap.objs.size) (by rw [sz1]; exact Nat.not_lt.mpr (Nat.le_succ _))
      have neS : s.heap.objs.size ∉ [(s.heap.push (nuO w)).objs.size, l] := fun z => (List.mem_cons.mp z).elim (fun z => absurd (z.trans sz1) (Nat.ne_of_lt (Nat.lt_succ_self _))) fun z => absurd (List.mem_singleton.mp z) (Nat.ne_of_gt lS)
      refine nloop (w := w) ((Walks.list nh3 _ l neI its).toS) s.heap.objs.size neS L hsz few val s.heap hk hT (gone _ (Nat.le_refl _)) (fun b hb => gone b (by rw [List.mem_singleton.mp hb, sz1]; exact Nat.le_succ _)) (by show _ + 8 < _; simp only [Around.in1_units]; omega) (its.size - 0) 0 _ (by omega) (Nat.zero_le _)
        ⟨⟨_, Heap.get?_push_size _ rfl, rfl, rfl⟩, (list1.push _)⟩ (fun b o e => Heap.get?_push_of_some _ (Heap.get?_push_of_some _ e)) ⟨_, _, _, nst_new (Heap.get?_push_of_some _ made), ⟨fun p hp => (by rw [List.take_zero] at hp; cases hp), Nat.le_refl _⟩⟩ fun s' es ep t mv N g kp => ?_
      obtain ⟨h', g2, d', tk', os'⟩ := s'
      obtain rfl : g2 = s.gens := mv.gens
      obtain rfl : d' = s.drawn := mv.drawn
      obtain rfl : os' = s.os := mv.os
      refine (wpAny_pure ?_ : wpAny _ _ _ _ _ _)
      refine (wpAny_pure ?_ : wpAny _ _ (ret Value.none) _ _ _)
      exact ⟨rfl, h', tk', es, ep, t, rfl, N, by rw [hsz] at g; exact g, kp⟩
    · match r2, hr2 with
      | .error e, hr2 => exact hr2
      | .ok (.ret r), hr2 =>
        obtain ⟨rfl, h', tk, es, ep, t, rfl, N, g, kp⟩ := hr2
        repeat (any_goals (first | assumption | wp_step))
        exact q _ _ _ _ _ N g kp
end
end Dl
set_option Elab.async false
set_option linter.all false
set_option maxRecDepth 100000
set_option maxHeartbeats 1000000
/-! Sets 4: sorted(set(xs)). -/
namespace Dl
open PySem PySem.Spec PyProof.Rows L2
def setO (w : World) (L : List Place) (a : Addr) : HO := .ext fun h => ∃ es ep t, Nst w h a L es ep t ∧ Gt w L L.length es
theorem refsN : ∀ {L : List Place} {us : List Value}, Vals (L.map fun p => V.ref p.1) us → us = L.map fun p => Value.ref p.1
  | [], _, .nil => rfl
  | p :: L, _, .cons r t => by
    cases r
    rw [refsN t]
    rfl
theorem valsN : ∀ (L : List Place), Vals (L.map fun p => V.ref p.1) (L.map fun p => Value.ref p.1)
  | [] => .nil
  | p :: L => .cons rfl (valsN L)
theorem drAN {H : Hp} : ∀ {L : List Place}, (∀ p ∈ L, Dr H (.ref p.1) p.2) → DrA H (L.map fun p => V.ref p.1) (L.map (·.2))
  | [], _ => .nil
  | p :: L, h => .cons (h p List.mem_cons_self) (drAN fun q hq => h q (List.mem_cons_of_mem _ hq))
theorem zipN : ∀ L : List Place, (L.map fun p => V.ref p.1).zip (L.map (·.2)) = L.map fun p => (V.ref p.1, p.2)
  | [] => rfl
  | p :: L => congrArg (_ :: ·) (zipN L)
theorem chosen {w : World} {L : List Place} : ∀ {l : List (Int × Value)}, (∀ e ∈ l, ∃ p ∈ L, e = rowN w p) → ∃ M : List Place, l = M.map (rowN w) ∧ ∀ p ∈ M, p ∈ L
  | [], _ => ⟨[], rfl, fun p hp => (nomatch hp)⟩
  | e :: l, h => by
    obtain ⟨p, hp, e1⟩ := h e List.mem_cons_self
    obtain ⟨M, e2, hM⟩ := chosen fun e he => h e (List.mem_cons_of_mem _ he)
    exact ⟨p :: M, by rw [e1, e2]; rfl, fun q hq => (List.mem_cons.mp hq).elim (fun z => z ▸ hp) (hM q)⟩
section
variable {X : Cx} {pins : List (Addr × Obj)} {σ : L2.St} {H : Hp} {s : Shared}
/-- set(xs) -/
def rSetQ (K : PySem.W.Frag) (w : World) : List V → Hp → VK → Prop := fun xs H Q => ∃ (l : Addr) (L : List Place), xs = [V.ref l] ∧ SqL K H l (L.map fun p => V.ref p.1) ∧ (∀ p ∈ L, Dr H (.ref p.1) p.2 ∧ Tp 7 p.2 = true) ∧ L.length < 64 ∧ ∀ a, H a = none → Q (.ref a) (upd H a (setO w L a))
theorem cr_setQ {k : Nat} (hr : Room k X.A) : CallR X (.type "set") (rSetQ X.K X.w) := by
  intro pins s σ H vs us Q I r h
  obtain ⟨l, L, rfl, hl, hk, few, q⟩ := h
  rw [Vals.ref1 r]
  obtain ⟨its, rv, hlist, _⟩ := I.list hl
  have hu := hu_of65 hr
  refine ncall (P := X.prog) (w := X.w) L hr.hd hlist.isList (by simpa using refsN rv) (fun p hp => nk_key I (hk p hp).2 (hk p hp).1) (fun p hp => (hk p hp).2) few (by omega) fun h' tk es ep t N g kp => ?_
  refine ⟨.ref s.heap.objs.size, upd H s.heap.objs.size (setO X.w L s.heap.objs.size), I.laid (t' := tk) kp (Nat.le_refl _) ⟨⟨es, ep, t, N, g⟩, ⟨_, N.ob.choose_spec.1⟩, ?_⟩, rfl, q _ (I.hok.fresh (Nat.le_refl _))⟩
  rintro g1 g2 ⟨es', ep', t', N', gt'⟩ kk
  exact ⟨es', ep', t', N'.up fun o e => kk o e, gt'⟩
/-- sorted(set) -/
def rSortQ (w : World) : List V → Hp → VK → Prop := fun vs H Q => ∃ (a : Addr) (L : List Place), vs = [V.ref a] ∧ H a = some (setO w L a) ∧ (∀ p ∈ L, Dr H (.ref p.1) p.2) ∧ SrtOk (L.map (·.2)) ∧ L.length < 64 ∧
  ∀ (bs : List (V × PyData)) (l : Addr), (∀ b ∈ bs, ∃ p ∈ L, b = (V.ref p.1, p.2)) → (∀ p ∈ L, ∃ b ∈ bs, nkOf b.2 = nkOf p.2) → bs.length ≤ L.length → H l = none → Q (.ref l) (upd H l (.lst (bs.map (·.1))))
theorem cr_sortQ {k : Nat} (hr : Room k X.A) : CallR X (.builtin "sorted") (rSortQ X.w) := by
  intro pins s σ H vs us Q I r h
  obtain ⟨a, L, rfl, ha, hk, so, few, q⟩ := h
  rw [Vals.ref1 r]
  obtain ⟨es, ep, t, N, g⟩ := (show ObjOk X.prog X.w H s.heap a (setO X.w L a) from I.hok a _ ha).1
  obtain ⟨o, ho, hex, hd⟩ := N.ob
  have fw := N.fw
  have hu := hu_of65 hr
  refine PySem.Calls.call_function_entry kind_sorted plain_sorted entry_sorted (args_sorted1 _) (?_ : wpAny _ _ (Builtin.«sorted» _) _ _ _)
  unfold Builtin.«sorted»
  refine wpAny_bind (m := checkCount "sorted" 1 1 _) (wpAny_pure (wpAny_bind ?_))
  refine collect_set (A := X.A.in1) (P := X.prog) hr.hd ⟨o, ho, hex.1, hd⟩ N.fits (by unfold scanBound; omega) N.tab.ris N.ld fun s1 out k1 hz g1 o1 pm => ?_
  obtain ⟨M0, eM, sM⟩ := chosen N.sub
  have ev : es.toList.map (·.2) = M0.map fun p => Value.ref p.1 := by rw [eM, List.map_map]; rfl
  obtain ⟨M, pM, eo⟩ := unperm pm M0 ev
  have inL : ∀ p ∈ M, p ∈ L := fun p hp => sM p (pM.mem_iff.mp hp)
  have hlM : M.length = es.size := by rw [pM.length_eq, ← Array.length_toList, eM, List.length_map]
  have hlo : out.length = M.length := by rw [eo, List.length_map]
  have soM : SrtOk (M.map (·.2)) := by
    have up : ∀ d ∈ M.map (·.2), d ∈ L.map (·.2) := fun d hd => by
      obtain ⟨p, hp, rfl⟩ := List.mem_map.mp hd
      exact List.mem_map.mpr ⟨p, inL p hp, rfl⟩
    exact ⟨fun d hd d' hd' => so.al d (up d hd) d' (up d' hd'), fun d hd => so.ok d (up d hd)⟩
  refine wpAny_bind (wpAny_newList ?_ (by rw [hlo, hlM, sizeLine_eq]; omega))
  obtain ⟨e1, e2⟩ := each_of I (drAN fun p hp => hk p (inL p hp)) (valsN M) fun d hd => (soM.ok d hd).1
  rw [← eo] at e1 e2
  generalize hbs : (M.map fun p => V.ref p.1).zip (M.map (·.2)) = bs at e1 e2
  have em : bs.map (·.2) = M.map (·.2) := by rw [← hbs]; exact zip_snd (drAN fun p hp => hk p (inL p hp))
  have lz : bs.length = M.length := by rw [← List.length_map (f := (·.2)), em, List.length_map]
  have newL : (s1.heap.push { cls := .type "list", data := .seq out.toArray }).get? s1.heap.objs.size = some (seqObj "list" out.toArray 0) := Heap.get?_push_size _ rfl
  have kb : ∀ b o, s.heap.get? b = some o → (s1.heap.push { cls := .type "list", data := .seq out.toArray }).get? b = some o := fun b o e => Heap.get?_push_of_some _ (k1 b o e)
  have s1e : s1 = { s with heap := s1.heap, toks := s1.toks, drawn := s1.drawn } := by
    cases s1
    cases s
    cases g1
    cases o1
    rfl
  refine wpAny_bind (wpAny_holding (wpAny_mono (W.list_sort_data (A := X.A.in1) (s := { s1 with heap := s1.heap.push { cls := .type "list", data := .seq out.toArray } }) (enc := fun b : V × PyData => b.2)
    (Q := fun _ s' => EP X pins σ Q (.ref s1.heap.objs.size) s') newL e1 (e2.mono fun _ _ h => ⟨[], PyProof.Rows.Reads.keeps kb h, by simp⟩) (by rw [em]; exact soM.al) (by rw [em]; exact soM.sortable) (by rw [lz, hlM, sizeLine_eq]; omega) (fun b hb => ?_) fun out2 h1 h2 => ?_) (fun _ s' x => wpAny_pure ⟨_, rfl, x⟩) fun _ _ e => e))
  · have hb' : b.2 ∈ M.map (·.2) := by rw [← em]; exact List.mem_map.mpr ⟨b, hb, rfl⟩
    have := (Pl.shape 7 b.2 (Tp.pl 7 _ (soM.ok _ hb').1)).2
    show X.A.units + 1 + 1 + _ < _
    omega
  · obtain ⟨b1, b2⟩ := each_back h2
    obtain ⟨ep', he'⟩ := PyProof.Rows.sortedHeap_at (vs := out) (out := out2.toArray) newL
    have pb : (bs.mergeSort (W.dataLe false fun b : V × PyData => b.2)).Perm bs := List.mergeSort_perm _ _
    have eb : bs = M.map fun p => (V.ref p.1, p.2) := by rw [← hbs]; exact zipN M
    have fH : H s1.heap.objs.size = none := I.hok.fresh hz
    have J : Inv X pins σ (upd H s1.heap.objs.size (.lst ((bs.mergeSort (W.dataLe false fun b : V × PyData => b.2)).map (·.1)))) { s with heap := sortedHeap (s1.heap.push { cls := .type "list", data := .seq out.toArray }) s1.heap.objs.size out out2.toArray, gens := s1.gens, drawn := s1.drawn, toks := s1.toks } := by
      have kall : ∀ b o, s.heap.get? b = some o → (sortedHeap (s1.heap.push { cls := .type "list", data := .seq out.toArray }) s1.heap.objs.size out out2.toArray).get? b = some o := fun b o z => by
        have lt : b < s1.heap.objs.size := Heap.lt_size (k1 b o z)
        rw [PyProof.Rows.sortedHeap_old (Nat.ne_of_lt lt) (by rw [Heap.size_push]; exact Nat.lt_succ_of_lt lt)]
        exact kb b o z
      exact I.call (ch := []) (Un.laid kall hz fH) (I.hok.laid kall hz ⟨by rw [List.length_map, pb.length_eq, lz, hlM, sizeLine_eq]; omega, out2, ep', b1, he'⟩) (by rw [g1]; exact I.bare) (fun _ z => nomatch z)
    have e3 : ({ s1 with heap := sortedHeap (s1.heap.push { cls := .type "list", data := .seq out.toArray }) s1.heap.objs.size out out2.toArray } : Shared) = { s with heap := sortedHeap (s1.heap.push { cls := .type "list", data := .seq out.toArray }) s1.heap.objs.size out out2.toArray, gens := s1.gens, drawn := s1.drawn, toks := s1.toks } := by
      rw [s1e]
    refine (?_ : EP X pins σ Q (.ref s1.heap.objs.size) { s1 with heap := sortedHeap (s1.heap.push { cls := .type "list", data := .seq out.toArray }) s1.heap.objs.size out out2.toArray })
    rw [e3]
    refine ⟨.ref _, _, J, rfl, q _ _ (fun b hb => ?_) (fun p hp => ?_) (by rw [pb.length_eq, lz, hlM]; exact Nat.le_trans g.len (Nat.le_refl _)) fH⟩
    · have hb' := pb.mem_iff.mp hb
      rw [eb] at hb'
      obtain ⟨p, hp, rfl⟩ := List.mem_map.mp hb'
      exact ⟨p, inL p hp, rfl⟩
    · obtain ⟨p', h1, h2, h3⟩ := g.all p (by rw [List.take_length]; exact hp)
      rw [eM] at h2
      obtain ⟨p2, m2, e2⟩ := List.mem_map.mp h2
      have hp2 := pM.mem_iff.mpr m2
      refine ⟨(V.ref p2.1, p2.2), pb.mem_iff.mpr (by rw [eb]; exact List.mem_map.mpr ⟨p2, hp2, rfl⟩), ?_⟩
      have er : p2.1 = p'.1 := by
        have := congrArg Prod.snd e2
        injection this
      have k1' := nk_key I (so.ok p2.2 (List.mem_map.mpr ⟨p2, inL p2 hp2, rfl⟩)).1 (hk p2 (inL p2 hp2))
      have k2' := nk_key I (so.ok p'.2 (List.mem_map.mpr ⟨p', h1, rfl⟩)).1 (hk p' h1)
      rw [er] at k1'
      exact ((nestedKind X.prog X.w).inj k1' k2').trans h3
end
variable {B : Bs} {Γ : List Sk}
theorem places {F : Hp} : ∀ {xs : List V} {ds : List PyData}, DrA F xs ds → (∀ d ∈ ds, ∃ es, d = .tuple es) → ∃ L : List Place, xs = L.map (fun p => V.ref p.1) ∧ ds = L.map (·.2) ∧ ∀ p ∈ L, Dr F (.ref p.1) p.2
  | _, _, .nil, _ => ⟨[], rfl, rfl, fun p hp => (nomatch hp)⟩
  | _, _, .cons h t, ht => by
    obtain ⟨es, rfl⟩ := ht _ List.mem_cons_self
    obtain ⟨a, ys, rfl, ha, r⟩ := h.tup_inv
    obtain ⟨L, e1, e2, h3⟩ := places t fun d hd => ht d (List.mem_cons_of_mem _ hd)
    exact ⟨(a, .tuple es) :: L, by rw [e1]; rfl, by rw [e2]; rfl, fun p hp => (List.mem_cons.mp hp).elim (fun z => by rw [z]; exact h) (h3 p)⟩
/-- sorted(set(xs)) -/
theorem evp_sortSet {t : TE} {ds : List PyData} (hx : Ev B t Γ (.list ds)) (so : SrtOk ds) (few : ds.length < 64) :
    EvP B (tCB (rSortQ B.w) (tCons (tCB (rSetQ B.K B.w) (tCons t tNil)) tNil)) Γ (fun x => ∃ es, x = .list es ∧ (∀ e ∈ es, e ∈ ds) ∧ (∀ d ∈ ds, ∃ e ∈ es, nkOf e = nkOf d) ∧ es.length ≤ ds.length) := fun F H σ o Q q => by
  refine hx F H σ o _ fun d0 v F1 H1 e0 gr1 r1 hv => ?_
  subst e0
  obtain ⟨l, ys, rfl, hl, r⟩ := hv.lst_inv
  obtain ⟨L, rfl, rfl, hL⟩ := places r fun d hd => let ⟨_, x, y, e⟩ := so.ok d hd; ⟨_, e⟩
  rw [List.length_map] at few
  refine ⟨l, L, rfl, SqL.of (gr1.fh _ _ hl), fun p hp => ⟨(hL p hp).mono gr1.fh, (so.ok p.2 (List.mem_map.mpr ⟨p, hp, rfl⟩)).1⟩, few, fun a ha => ?_⟩
  have g2 : Gr [] F1 H1 F1 (upd H1 a (setO B.w L a)) := Gr.own (o := setO B.w L a) gr1.fh ha
  refine ⟨a, L, rfl, upd_same, fun p hp => (hL p hp).mono g2.fh, so, few, fun bs l2 h1 h2 h3 hl2 => ?_⟩
  have g3 := g2.trans (Gr.new (o := .lst (bs.map (·.1))) g2.fh hl2)
  have hb : DrA F1 (bs.map (·.1)) (bs.map (·.2)) := drA_of fun b hb => by
    obtain ⟨p, hp, rfl⟩ := h1 b hb
    exact hL p hp
  refine q _ _ _ _ ⟨_, rfl, fun e he => ?_, fun d hd => ?_, by rw [List.length_map, List.length_map]; exact h3⟩ (gr1.trans (g3.weak fun _ h => nomatch h)) (fun a ha => (r1 a ha).gr0 g3) (.lst upd_same (hb.mono g3.ff))
  · obtain ⟨b, hb, rfl⟩ := List.mem_map.mp he
    obtain ⟨p, hp, rfl⟩ := h1 b hb
    exact List.mem_map.mpr ⟨p, hp, rfl⟩
  · obtain ⟨p, hp, rfl⟩ := List.mem_map.mp hd
    obtain ⟨b, hb, e⟩ := h2 p hp
    exact ⟨b.2, List.mem_map.mpr ⟨b, hb, rfl⟩, e⟩
end Dl
set_option Elab.async false
set_option linter.all false
set_option maxRecDepth 100000
set_option maxHeartbeats 1000000
/-! Walks 26: the law's steps. -/
namespace Dl
open PySem PySem.Spec PyProof.Rows L2 C8 Rf
theorem ev_lcR2y {B : Bs} {Γ : List Sk} {ta : TA} {te : TE} {g : TG} {vs : List Nat} {lo n : Int} {m : Nat} (h : Nat → PyData) (hl : Ea B ta Γ [.int lo, .int n]) (hm : (n - lo).toNat = m) (hz : 0 ≤ lo ∧ lo ≤ 1000 ∧ 0 ≤ n ∧ n ≤ 1000)
    (ht : ∀ j, j < m → ∃ Γ2, BnN B g (.int (lo + (j : Nat))) vs (wipeG Γ vs) Γ2 ∧ Ev B te Γ2 (h j)) : Ev B (tLc (iRng2 ta) g tYes te vs) Γ (.list ((List.range m).map h)) := by
  have inj : ∀ x y : Nat, PyData.int (lo + (x : Nat)) = PyData.int (lo + (y : Nat)) → x = y := fun x y e => by
    injection e with e
    omega
  refine evp_mono (evp_lcR2 (Pb := fun d b => ∃ x : Nat, d = .int (lo + (x : Nat)) ∧ b = true) (Pe := fun d e => ∃ x : Nat, d = .int (lo + (x : Nat)) ∧ e = h x) hl (by omega) (by omega) fun j hj => ?_) fun d ⟨es, e, lr⟩ => by
    rw [hm] at lr
    rw [e, lc_map inj (f := fun _ => true) lr, flt_true]
  obtain ⟨Γ2, h1, h2⟩ := ht j (by omega)
  exact ⟨Γ2, h1, etp_mono etp_yes fun b e => ⟨j, rfl, e⟩, fun _ => evp_mono h2 fun e he => ⟨j, rfl, he⟩⟩
theorem steps_of {es : List PyData} : ∀ {L : List Step}, (∀ e ∈ es, e ∈ L.map stepD) → ∃ L' : List Step, es = L'.map stepD ∧ ∀ s ∈ L', s ∈ L := fun {L} h => by
  induction es with
  | nil => exact ⟨[], rfl, fun s hs => (nomatch hs)⟩
  | cons e es ih =>
    obtain ⟨s, hs, e1⟩ := List.mem_map.mp (h e List.mem_cons_self)
    obtain ⟨L', e2, h2⟩ := ih fun x hx => h x (List.mem_cons_of_mem _ hx)
    exact ⟨s :: L', by rw [← e1, e2]; rfl, fun t ht => (List.mem_cons.mp ht).elim (fun z => z ▸ hs) (h2 t)⟩
section
variable {P : Program} {w : World} {K : PySem.W.Frag} {mg : PySem.Str → Option Value} {base : Heap}
theorem sc__law_steps : FnScope ["_law_flow_here", "_law_found", "_law_counts", "_law_box", "_law_k"] ["_law_flow_here"] (defScope s_law_steps) := ⟨rfl, rfl, rfl, by decide +kernel, rfl, by decide +kernel, by decide +kernel⟩
abbrev spLSteps : Sp := spA eFC (fun x => Fine x.1 x.2) StepsPost
theorem ok__law_steps (T : Tx mg) (F : Df K mg "_law_steps" s_law_steps) (c__law_needs : Cal P w K mg base 4 "_law_needs" spLNeeds []) (c__law_round : Cal P w K mg base 3 "_law_round" spReps []) : Cal P w K mg base 5 "_law_steps" spLSteps [] := by
  refine calA _ _ _ F sc__law_steps rfl (by decide) (fun _ => rfl) (fun _ _ _ _ _ _ us hl => match us, hl with | [_], _ => rfl) fun f cdv A outer s H E hr => ⟨_,
    (pss_cons (ps_set (i := 1) sc__law_steps.nd rfl (.inl rfl) (pe_c c__law_needs hr (by decide) (by rfl) (pa_cons (pv 0) pa_nil)))
      (pss_cons (ps_set (i := 2) sc__law_steps.nd rfl (.inl rfl) (pe_c c__law_round hr (by decide) (by rfl) (pa_cons (pv 0) pa_nil)))
      (pss_cons (ps_for PassesOwn.never rfl (pi_range1 (by rfl) T.m_range (pa_cons (pe_ix ix_seq (pv 0) pe_int (fun _ _ => rfl)) pa_nil)) (pg_name (i := 3) sc__law_steps.nd rfl (.inr rfl)) (pss_cons (ps_set (i := 1) sc__law_steps.nd rfl (.inl rfl) (pe_op op_cat (pv 1) (pe_lc (own := [("_law_k", 4)]) (g := (gName 4)) (tt := tYes) rfl sc__law_steps.nd (pi_range2 (by rfl) T.m_range (pa_cons pe_int (pa_cons (pe_ix ix_seq (pv 2) (pv 3) (fun _ _ => rfl)) pa_nil))) (blkOk_by (own := [("_law_k", 4)]) (N := ["_law_flow_here", "_law_found", "_law_counts", "_law_box", "_law_k"]) (sc := defScope s_law_steps) (by decide +kernel)) (fun _ _ _ _ _ => (pg_name (i := 4) sc__law_steps.nd rfl (.inl rfl))) (fun _ _ _ _ _ => pts_nil) (fun _ _ _ _ _ => (pe_tup (pa_cons (pe_tup (pa_cons (pv 3) (pa_cons (pe_op op_sub (pv 4) pe_int) pa_nil))) (pa_cons (pe_tup (pa_cons (pv 3) (pa_cons (pv 4) pa_nil))) (pa_cons pe_int pa_nil))))))))
      (pss_one (ps_set (i := 1) sc__law_steps.nd rfl (.inl rfl) (pe_op op_cat (pv 1) (pe_lst (pa_cons (pe_tup (pa_cons (pe_tup (pa_cons (pv 3) (pa_cons (pe_op op_sub (pe_ix ix_seq (pv 2) (pv 3) (fun _ _ => rfl)) pe_int) pa_nil))) (pa_cons (pe_tup (pa_cons (pv 3) (pa_cons pe_int pa_nil))) (pa_cons pe_int pa_nil)))) pa_nil)))))))
      (pss_one (ps_ret (pe_callB (cr_sortQ hr) (by rfl) T.m_sorted (by decide +kernel) (pa_cons (pe_callTy (cr_setQ hr) (by rfl) T.m_set (by decide +kernel) (pa_cons (pv 1) pa_nil)) pa_nil))))))), fun F0 x hx => ?_⟩
  obtain ⟨f, c⟩ := x
  have FG : Fine f c := hx
  have G := FG.toGood
  show Wp _ _ ([.im (flowD f)] ++ List.replicate _ .un) _
  have hsum := rndL_sum G
  have n3 := FG.ok.n.2
  refine wp_seq (wp_setP (ev_callA (f, c) (ea_cons (ev_var rfl) ea_nil) rfl FG) fun d ⟨L0, e0, m0, l0⟩ => ?_)
  subst e0
  refine wp_seq (wp_set (ev_callA (f, c) (ea_cons (ev_var rfl) ea_nil) rfl G) ?_)
  refine wp_seq (wp_forR1 (n := (f.n : Nat)) (Pn := fun _ => True) (fun i Γ => ∃ L s3 s4, Γ = [.im (flowD f), .im (.list (L.map stepD)), .im (.list (natsD (rndL f c))), s3, s4] ∧ (∀ s, s ∈ L ↔ InNeeds f c s ∨ ∃ b, b < i ∧ ∃ k, k < rnd f c b ∧ s = ownS f c b k) ∧ L.length ≤ 16 + ((rndL f c).take i).sum)
    (ea_cons (ev_op (ev_var rfl) ev_int (opd_ixT rfl)) ea_nil) (by omega) ⟨L0, _, _, rfl, fun s => by rw [m0]; exact ⟨.inl, fun z => z.elim id fun ⟨b, hb, _⟩ => absurd hb (Nat.not_lt_zero b)⟩, by rw [List.take_zero]; exact l0⟩ (fun i Γ' hi ⟨L, s3, s4, e, me, ll⟩ => ?_) (fun Γ' ⟨L, s3, s4, e, me, ll⟩ => ?_))
  · subst e
    have il : i < f.n := by omega
    have rb := rnd_bd G il
    have st := sum_take (rndL_get (c := c) il)
    have sle : ((rndL f c).take i).sum ≤ (rndL f c).sum := by
      conv => rhs; rw [← List.take_append_drop i (rndL f c), List.sum_append]
      omega
    have own1 : ∀ j, j < rnd f c i - 1 → ownS f c i (j + 1) = ⟨i, j, i, j + 1, 0⟩ := fun j _ => by
      unfold ownS
      rw [if_pos (Nat.succ_pos j)]
      rfl
    have own0 : ownS f c i 0 = ⟨i, rnd f c i - 1, i, 0, 1⟩ := by
      unfold ownS
      rw [if_neg (Nat.lt_irrefl 0)]
    refine tg_name (wp_seq (wp_set (d := .list ((L ++ (List.range (rnd f c i - 1)).map fun j => ownS f c i (j + 1)).map stepD)) (ev_eq (ev_op (ev_var rfl) (ev_lcR2y (lo := 1) (n := (rnd f c i : Nat)) (m := rnd f c i - 1) (fun j => stepD (ownS f c i (j + 1))) (ea_cons ev_int (ea_cons (ev_ixN (ev_var rfl) (ev_var rfl) (rndL_get il)) ea_nil)) (by omega) (by omega) fun j hj => ⟨_, bn_name (by simp), ?_⟩) (opd_cat (by simp only [List.length_map, List.length_range]; omega))) ?_) ?_))
    · refine ev_eq (ev_tup (ea_cons (ev_tup (ea_cons (ev_var rfl) (ea_cons (ev_op (ev_var rfl) ev_int opd_sub) ea_nil))) (ea_cons (ev_tup (ea_cons (ev_var rfl) (ea_cons (ev_var rfl) ea_nil))) (ea_cons ev_int ea_nil)))) ?_
      rw [own1 j hj]
      show PyData.tuple [.tuple [_, .int (1 + (j : Nat) - 1)], .tuple [_, .int (1 + (j : Nat))], _] = PyData.tuple [.tuple [_, .int (j : Nat)], .tuple [_, .int ((j + 1 : Nat) : Int)], _]
      rw [show (1 : Int) + (j : Nat) - 1 = (j : Nat) by omega, show (1 : Int) + (j : Nat) = ((j + 1 : Nat) : Int) by omega]
    · rw [List.map_append, List.map_map]
      rfl
    · refine wp_set (d := .list ((L ++ ((List.range (rnd f c i - 1)).map (fun j => ownS f c i (j + 1)) ++ [ownS f c i 0])).map stepD)) (ev_eq (ev_op (ev_var rfl) (ev_lst (ea_cons (ev_tup (ea_cons (ev_tup (ea_cons (ev_var rfl) (ea_cons (ev_op (ev_ixN (ev_var rfl) (ev_var rfl) (rndL_get il)) ev_int opd_sub) ea_nil))) (ea_cons (ev_tup (ea_cons (ev_var rfl) (ea_cons ev_int ea_nil))) (ea_cons ev_int ea_nil)))) ea_nil)) (opd_cat (by simp only [List.length_map, List.length_append, List.length_range, List.length_cons, List.length_nil]; omega))) ?_) ⟨_, _, _, rfl, fun s => ?_, ?_⟩
      · rw [← List.append_assoc, List.map_append (l₂ := [ownS f c i 0]), own0]
        show PyData.list (_ ++ [.tuple [.tuple [_, .int ((rnd f c i : Nat) - 1 : Int)], _, _]]) = PyData.list (_ ++ [.tuple [.tuple [_, .int ((rnd f c i - 1 : Nat) : Int)], _, _]])
        rw [show ((rnd f c i : Nat) : Int) - 1 = ((rnd f c i - 1 : Nat) : Int) by omega]
        rfl
      · rw [List.mem_append, me, List.mem_append, List.mem_singleton, List.mem_map]
        constructor
        · rintro ((h | ⟨b, hb, h⟩) | (⟨j, hj, e⟩ | e))
          · exact .inl h
          · exact .inr ⟨b, by omega, h⟩
          · exact .inr ⟨i, by omega, j + 1, by have := List.mem_range.mp hj; omega, e.symm⟩
          · exact .inr ⟨i, by omega, 0, by omega, e⟩
        · rintro (h | ⟨b, hb, k, hk, e⟩)
          · exact .inl (.inl h)
          · by_cases z : b = i
            · subst z
              cases k with
              | zero => exact .inr (.inr e)
              | succ k => exact .inr (.inl ⟨k, List.mem_range.mpr (by omega), e.symm⟩)
            · exact .inl (.inr ⟨b, by omega, k, hk, e⟩)
      · rw [st]
        simp only [List.length_append, List.length_map, List.length_range, List.length_cons, List.length_nil]
        omega
  · subst e
    rw [Int.toNat_natCast] at me ll
    have tk : (rndL f c).take f.n = rndL f c := List.take_of_length_le (by rw [rndL_len]; exact Nat.le_refl _)
    rw [tk] at ll
    refine wp_ret (evp_sortSet (ev_var rfl) (srt_steps L) (by rw [List.length_map]; omega)) fun d ⟨es, e, h1, h2, h3⟩ => ?_
    obtain ⟨L', rfl, h4⟩ := steps_of h1
    rw [List.length_map, List.length_map] at h3
    refine ⟨L', e, fun s => ?_, by omega⟩
    have : s ∈ L' ↔ s ∈ L := ⟨h4 s, fun hs => by
      obtain ⟨e2, he2, z⟩ := h2 (stepD s) (List.mem_map.mpr ⟨s, hs, rfl⟩)
      obtain ⟨s', hs', rfl⟩ := List.mem_map.mp he2
      rw [← nk_inj z]
      exact hs'⟩
    rw [this, me]
    rfl
end
end Dl
set_option Elab.async false
set_option linter.all false
set_option maxRecDepth 100000
set_option maxHeartbeats 1000000
/-! Walks 27: the law. -/
namespace Dl
open PySem PySem.Spec PyProof.Rows L2 C8 Rf
def spLaw (K : PySem.W.Frag) : Sp := fun vs H Q _ => ∃ (a : Addr) (ns : List Int), vs = [.ref a] ∧ SqL K H a (ns.map V.int) ∧ ∀ H', Q (.bl true) H'
theorem law_first {a : Addr} {σ : L2.St} {u : TS} {D : L2.Ends} {H : Hp} (h0 : σ[0]? = some (some (.ref a))) (h : ∀ p, H p = none → u D (σ.set 1 (some (.ref p))) (upd H p (.lst [.ref a, .int 0, .int 9846, .int 0]))) :
    tSeq (tAsg (tLst (tCons (tVar 0) (tCons (tC (.int 0)) (tCons (tC (.int 9846)) (tCons (tC (.int 0)) tNil))))) (gName 1)) u D σ H := ⟨.ref a, h0, (by show 4 ≤ sizeLine; rw [sizeLine_eq]; decide), h⟩
/-- behind the row's making -/
theorem law_own {P : Program} {w : World} {K : PySem.W.Frag} {H : Hp} {a p : Addr} {ns : List Int} (hS : SqL K H a (ns.map V.int)) (hp : H p = none) {N : List PySem.Str} (hN : N.length = 7) :
    Own ⟨P, w, K, [p], H, upd H p (.lst [.ref a, .int 0, .int 9846, .int 0])⟩ H (upd H p (.lst [.ref a, .int 0, .int 9846, .int 0])) ((start N [.ref a]).set 1 (some (.ref p))) [.scr, .row, .un, .un, .un, .un, .un] where
  gr := Gr.refl (Gr.own (A := []) (Same.refl H) hp).fh
  len := by
    unfold L2.start
    simp [hN]
  at_ := fun i s h => by
    match i, h with
    | 0, h => cases h; exact ⟨a, ns, rfl, hS⟩
    | 1, h =>
      cases h
      refine ⟨p, ?_, List.mem_singleton.mpr rfl⟩
      refine slot_of ?_
      rw [List.getElem?_set_self]
      unfold L2.start
      simp [hN]
    | 2, h => cases h; trivial
    | 3, h => cases h; trivial
    | 4, h => cases h; trivial
    | 5, h => cases h; trivial
    | 6, h => cases h; trivial
    | n + 7, h => simp at h
  sep := fun i j s t x _ h _ m _ => by
    match i, h with
    | 0, h => cases h; cases m
    | 1, h => cases h; cases m
    | 2, h => cases h; cases m
    | 3, h => cases h; cases m
    | 4, h => cases h; cases m
    | 5, h => cases h; cases m
    | 6, h => cases h; cases m
    | n + 7, h => simp at h
  rows := fun b hb => by
    rw [List.mem_singleton] at hb
    subst hb
    exact ⟨hp, a, ns, 0, 9846, 0, upd_same, hS, by decide, by decide, by decide, by decide⟩
section
variable {P : Program} {w : World} {K : PySem.W.Frag} {mg : PySem.Str → Option Value} {base : Heap} {f : Addr} {fd : FuncData}
theorem sc_law : FnScope ["_law_script", "_law_row", "_law_flow_here", "_law_times", "_law_steps_here", "_law_ring", "_law_step"] ["_law_script"] (defScope s_law) := ⟨rfl, rfl, rfl, by decide +kernel, rfl, by decide +kernel, by decide +kernel⟩
theorem ok_law (T : Tx mg) (F : FnP K "law" s_law f fd) (c__law_alike : Cal P w K mg base 3 "_law_alike" spAlP []) (c__law_durations : Cal P w K mg base 3 "_law_durations" (spDur K) []) (c__law_live : Cal P w K mg base 4 "_law_live" (spLive K) []) (c__law_mean : Cal P w K mg base 3 "_law_mean" spLMean []) (c__law_ratio : Cal P w K mg base 2 "_law_ratio" spRed []) (c__law_steps : Cal P w K mg base 5 "_law_steps" spLSteps []) (c_mean_time : Cal P w K mg base 11 "mean_time" spMeanT []) (c_shows_slow_ring : Cal P w K mg base 11 "shows_slow_ring" spShows []) (c_slow_ring : Cal P w K mg base 11 "slow_ring" spRingT []) : FnOk P w K mg base C8.CX0 30 f fd ["_law_script"] (spLaw K) := by
  refine F.ok sc_law (fun vs H Q E h => by obtain ⟨a, ns, rfl, _⟩ := h; rfl) fun cdv A outer s H vs Q E hr h => ⟨_, PSs.nox (pss_cons (ps_set (i := 1) sc_law.nd rfl (.inl rfl) (pe_lst (pa_cons (pv 0) (pa_cons pe_int (pa_cons pe_int (pa_cons pe_int pa_nil))))))
      (pss_cons (ps_set (i := 2) sc_law.nd rfl (.inl rfl) (pe_c c__law_live hr (by decide) (by rfl) (pa_cons (pv 1) (pa_cons pe_int (pa_cons pe_int pa_nil)))))
      (pss_cons (ps_set (i := 3) sc_law.nd rfl (.inr rfl) (pe_c c__law_durations hr (by decide) (by rfl) (pa_cons (pv 1) (pa_cons (pv 2) pa_nil))))
      (pss_cons (ps_set (i := 4) sc_law.nd rfl (.inl rfl) (pe_c c__law_steps hr (by decide) (by rfl) (pa_cons (pv 2) pa_nil)))
      (pss_cons (ps_set (i := 5) sc_law.nd rfl (.inl rfl) (pe_c c_slow_ring hr (by decide) (by rfl) (pa_cons (pv 2) (pa_cons (pv 3) pa_nil))))
      (pss_cons (ps_if (pt_cmpR op_notBl (pe_c c_shows_slow_ring hr (by decide) (by rfl) (pa_cons (pv 2) (pa_cons (pv 3) (pa_cons (pv 5) pa_nil)))) pe_bl (nomark _)) (pss_one (ps_ret pe_bl)) pss_nil)
      (pss_cons (ps_if (pt_cmpR op_gt (pe_callB call_len_seq (by rfl) T.m_len PySem.boot_len (pa_cons (pv 4) pa_nil)) pe_int (nomark _)) (pss_one (ps_ret (pe_cmpR (op_eqD (hu64 hr)) (pe_c c__law_ratio hr (by decide) (by rfl) (pa_cons (pe_callB (cr_sum rfl) (by rfl) T.m_sum (by decide +kernel) (pa_cons (pe_lc (own := [("_law_step", 6)]) (g := (gName 6)) (tt := tYes) rfl sc_law.nd (pi_tup (pv 5)) (blkOk_by (own := [("_law_step", 6)]) (N := ["_law_script", "_law_row", "_law_flow_here", "_law_times", "_law_steps_here", "_law_ring", "_law_step"]) (sc := defScope s_law) (by decide +kernel)) (fun _ _ _ _ _ => (pg_name (i := 6) sc_law.nd rfl (.inl rfl))) (fun _ _ _ _ _ => pts_nil) (fun _ _ _ _ _ => (pe_ix (ix_seqK (K := K) rfl) (pv 3) (pe_ix (ix_seqK (K := K) rfl) (pe_ix (ix_seqK (K := K) rfl) (pv 6) pe_int (fun _ _ => rfl)) pe_int (fun _ _ => rfl)) (fun _ _ => rfl)))) pa_nil)) (pa_cons (pe_callB (cr_sum rfl) (by rfl) T.m_sum (by decide +kernel) (pa_cons (pe_lc (own := [("_law_step", 6)]) (g := (gName 6)) (tt := tYes) rfl sc_law.nd (pi_tup (pv 5)) (blkOk_by (own := [("_law_step", 6)]) (N := ["_law_script", "_law_row", "_law_flow_here", "_law_times", "_law_steps_here", "_law_ring", "_law_step"]) (sc := defScope s_law) (by decide +kernel)) (fun _ _ _ _ _ => (pg_name (i := 6) sc_law.nd rfl (.inl rfl))) (fun _ _ _ _ _ => pts_nil) (fun _ _ _ _ _ => (pe_ix (ix_seqK (K := K) rfl) (pv 6) pe_int (fun _ _ => rfl)))) pa_nil)) pa_nil))) (pe_c c_mean_time hr (by decide) (by rfl) (pa_cons (pv 2) (pa_cons (pv 3) pa_nil))) (nomark _)))) pss_nil)
      (pss_one (ps_ret (pe_c c__law_alike hr (by decide) (by rfl) (pa_cons (pe_c c_mean_time hr (by decide) (by rfl) (pa_cons (pv 2) (pa_cons (pv 3) pa_nil))) (pa_cons (pe_c c__law_mean hr (by decide) (by rfl) (pa_cons (pv 4) (pa_cons (pv 3) pa_nil))) pa_nil)))))))))))), ?_⟩
  obtain ⟨a, ns, rfl, hS, hQ⟩ := h
  refine law_first rfl fun p hp => ?_
  refine (?_ : Wp ⟨P, w, K, [p], H, upd H p (.lst [.ref a, .int 0, .int 9846, .int 0])⟩ _ [.scr, .row, .un, .un, .un, .un, .un] (Po.of fun r => r = .bool true)) H _ _ _ (law_own hS hp rfl) ⟨fun _ _ _ _ _ z _ => (nomatch z), fun d v F' H' _ z _ _ hv => by
    subst z
    obtain rfl := hv.bool_inv
    exact hQ H', fun _ _ _ _ _ z => z.elim, fun _ _ _ _ _ z => z.elim⟩
  refine wp_seq (wp_setP (ev_callD ((3, 5) : Nat × Nat) rfl (ea_cons ev_int (ea_cons ev_int ea_nil)) rfl rfl) fun d ⟨fl, c, e, FG⟩ => ?_)
  subst e
  refine wp_seq (wp_setP (ev_callD fl rfl (ea_cons (ev_var rfl) ea_nil) rfl FG.ok.n.2) fun d ⟨ts, e, ht⟩ => ?_)
  subst e
  refine wp_seq (wp_setP (ev_callA (fl, c) (ea_cons (ev_var rfl) ea_nil) rfl FG) fun d ⟨L, e, m, l⟩ => ?_)
  subst e
  have G : Gph L ts := FG.gph ht m l
  refine wp_seq (wp_setP (ev_callA (fl, c, ts) (ea_cons (ev_var rfl) (ea_cons (ev_var rfl) ea_nil)) rfl (by exact ⟨FG, ht⟩)) fun d ⟨R, e, sl⟩ => ?_)
  subst e
  have l12 := sl.len
  refine wp_seq (wp_noE (et_test (ev_op (ev_callA (((fl, c, ts), R) : (Flow × (Nat → Nat) × List Nat) × List Step) (ea_cons (ev_var rfl) (ea_cons (ev_var rfl) (ea_cons (ev_var rfl) ea_nil))) rfl (by exact ⟨⟨FG, ht⟩, sl⟩)) ev_bl opd_notB)) rfl (wp_next ?_))
  have em : ∀ {B : Bs} {Γ : List Sk} {E : XK}, Γ[2]? = some (.im (flowD fl)) → Γ[3]? = some (.im (marksD ts)) → EvP B (tCall spMeanT [] E (tCons (tVar 2) (tCons (tVar 3) tNil))) Γ (fun r => r = pI (rd (tsum ts R) (lsum R))) := fun h1 h2 => evp_mono (ev_callA (fl, c, ts) (ea_cons (ev_var h1) (ea_cons (ev_var h2) ea_nil)) rfl (by exact ⟨FG, ht⟩)) fun d ⟨R', e, sl'⟩ => by rw [e, sl'.same sl]
  refine wp_seq (wp_ifD (et_test (ev_op (ev_cb (ea_cons (ev_var rfl) ea_nil) cd_lenL) ev_int opd_gt)) (fun _ => ?_) (fun few => wp_next ?_))
  · have sin : ∀ s ∈ R, s.a < ts.length := fun s hs => (G.ok s ((m s).mpr (sl.slow.2.2.1 s hs))).1
    refine wp_retD (ev_op (ev_callA ((tsum ts R, lsum R) : Int × Int) (ea_cons (ev_cb (ea_cons (ev_lcTy (fun s => .int (rv ts s.a : Nat)) stepD_inj (ev_var rfl) (by omega) fun s hs => ⟨_, bn_name (by simp), ev_ixNT (ev_var rfl) (ev_op (ev_op (ev_var rfl) ev_int (opd_ixT rfl)) ev_int (opd_ixT rfl)) (rv_get (sin s hs))⟩) ea_nil) cd_sumS)
      (ea_cons (ev_cb (ea_cons (ev_lcTy (fun s => .int s.lag) stepD_inj (ev_var rfl) (by omega) fun s hs => ⟨_, bn_name (by simp), ev_op (ev_var rfl) ev_int (opd_ixT rfl)⟩) ea_nil) (cd_sumS (g := fun s => s.lag))) ea_nil)) rfl (by exact ⟨sl.pos.1, by have := sl.pos.2; dsimp only; omega⟩)) (em rfl rfl) (opd_eq (n := 1) (m := 1) rfl rfl (by decide) (by decide))) ?_
    rw [eqv_pI, decide_eq_true rfl]
    rfl
  · have few : L.length ≤ 22 := by
      have := of_decide_eq_false few
      rw [List.length_map] at this
      omega
    exact wp_retD (ev_callA ((rd (tsum ts R) (lsum R), rd (tsum ts R) (lsum R)) : (Int × Int) × (Int × Int)) (ea_cons (em rfl rfl) (ea_cons (ev_callA ((L, ts, R) : List Step × List Nat × List Step) (ea_cons (ev_var rfl) (ea_cons (ev_var rfl) ea_nil)) rfl (by exact ⟨G, few, sl.slow.congr fun s => (m s).symm, sl.pos.1⟩)) ea_nil)) rfl rfl) rfl
end
end Dl
set_option Elab.async false
set_option linter.all false
set_option maxRecDepth 100000
set_option maxHeartbeats 1000000
/-! The end: every def's promise from the head's facts. -/
namespace Dl
open PySem PySem.Spec PyProof.Rows L2 C8 Rf
theorem intAt {K : PySem.W.Frag} {h : Heap} {mg : PySem.Str → Option Value} (X : K.In h) (G : h.Ns mainGlobals mg) {x : PySem.Str} {i : Int} (c : (He.Fa.int x i).ok K = true) : IntAt mg x i := by
  obtain ⟨t, e⟩ := He.int_ok X G c
  exact ⟨_, e, t, rfl⟩
theorem tx_of {K : PySem.W.Frag} {h : Heap} {mg : PySem.Str → Option Value} (X : K.In h) (G : h.Ns mainGlobals mg) (c : He.SaysD fa fn K) : Tx mg :=
  Tx.mk
    (He.free_ok X G (c.fact 59 (f := .free "abs") rfl))
    (He.free_ok X G (c.fact 60 (f := .free "bool") rfl))
    (He.free_ok X G (c.fact 61 (f := .free "enumerate") rfl))
    (He.free_ok X G (c.fact 62 (f := .free "int") rfl))
    (He.free_ok X G (c.fact 63 (f := .free "isinstance") rfl))
    (He.free_ok X G (c.fact 64 (f := .free "len") rfl))
    (He.free_ok X G (c.fact 65 (f := .free "list") rfl))
    (He.free_ok X G (c.fact 66 (f := .free "range") rfl))
    (He.free_ok X G (c.fact 67 (f := .free "set") rfl))
    (He.free_ok X G (c.fact 68 (f := .free "sorted") rfl))
    (He.free_ok X G (c.fact 69 (f := .free "str") rfl))
    (He.free_ok X G (c.fact 70 (f := .free "sum") rfl))
    (He.free_ok X G (c.fact 71 (f := .free "tuple") rfl))
    (intAt X G (c.fact 52 (f := .int "MOST_BOXES" 8) rfl))
    (intAt X G (c.fact 53 (f := .int "MOST_PIPES" 16) rfl))
    (intAt X G (c.fact 54 (f := .int "MOST_RATE" 999) rfl))
    (intAt X G (c.fact 55 (f := .int "MOST_TOKENS" 99999) rfl))
    (intAt X G (c.fact 56 (f := .int "MOST_ROUND" 2000) rfl))
    (intAt X G (c.fact 57 (f := .int "MOST_FIRINGS" 120) rfl))
    (intAt X G (c.fact 58 (f := .int "MOST_DURATION" 99) rfl))
theorem lawOk : LawOk := fun {P w K h mg f} X G hf c => by
  obtain ⟨fd, F⟩ := c.def_ 51 (d := d_law) rfl
  have e := hf.symm.trans (He.glo_ok X G (c.fact 51 (f := .glo "law") rfl))
  cases e
  have b := FunD.bindsA (ps := ["_law_script"]) F fun _ _ _ _ _ _ us hl => match us, hl with | [_], _ => rfl
  refine ⟨fd, spLaw K, fun s v => b s [v] rfl, fun H a ns _ _ hS => ⟨a, ns, rfl, hS, fun _ => rfl⟩, fun base _ _ => ?_⟩
  have T := tx_of X G c
  have g0 : Df K mg "is_in" s_is_in := ⟨_, _, (c.def_ 0 (d := d_is_in) rfl).choose_spec, He.glo_ok X G (c.fact 0 (f := .glo "is_in") rfl)⟩
  have g1 : Df K mg "gcd" s_gcd := ⟨_, _, (c.def_ 1 (d := d_gcd) rfl).choose_spec, He.glo_ok X G (c.fact 1 (f := .glo "gcd") rfl)⟩
  have g2 : Df K mg "reduced" s_reduced := ⟨_, _, (c.def_ 2 (d := d_reduced) rfl).choose_spec, He.glo_ok X G (c.fact 2 (f := .glo "reduced") rfl)⟩
  have g3 : Df K mg "times" s_times := ⟨_, _, (c.def_ 3 (d := d_times) rfl).choose_spec, He.glo_ok X G (c.fact 3 (f := .glo "times") rfl)⟩
  have g4 : Df K mg "is_pipe" s_is_pipe := ⟨_, _, (c.def_ 4 (d := d_is_pipe) rfl).choose_spec, He.glo_ok X G (c.fact 4 (f := .glo "is_pipe") rfl)⟩
  have g5 : Df K mg "need_flow" s_need_flow := ⟨_, _, (c.def_ 5 (d := d_need_flow) rfl).choose_spec, He.glo_ok X G (c.fact 5 (f := .glo "need_flow") rfl)⟩
  have g6 : Df K mg "reach_of" s_reach_of := ⟨_, _, (c.def_ 6 (d := d_reach_of) rfl).choose_spec, He.glo_ok X G (c.fact 6 (f := .glo "reach_of") rfl)⟩
  have g7 : Df K mg "parts_in" s_parts_in := ⟨_, _, (c.def_ 7 (d := d_parts_in) rfl).choose_spec, He.glo_ok X G (c.fact 7 (f := .glo "parts_in") rfl)⟩
  have g8 : Df K mg "marks_in" s_marks_in := ⟨_, _, (c.def_ 8 (d := d_marks_in) rfl).choose_spec, He.glo_ok X G (c.fact 8 (f := .glo "marks_in") rfl)⟩
  have g9 : Df K mg "shares_in" s_shares_in := ⟨_, _, (c.def_ 9 (d := d_shares_in) rfl).choose_spec, He.glo_ok X G (c.fact 9 (f := .glo "shares_in") rfl)⟩
  have g10 : Df K mg "bad_pipe" s_bad_pipe := ⟨_, _, (c.def_ 10 (d := d_bad_pipe) rfl).choose_spec, He.glo_ok X G (c.fact 10 (f := .glo "bad_pipe") rfl)⟩
  have g11 : Df K mg "repetitions_in" s_repetitions_in := ⟨_, _, (c.def_ 11 (d := d_repetitions_in) rfl).choose_spec, He.glo_ok X G (c.fact 11 (f := .glo "repetitions_in") rfl)⟩
  have g12 : Df K mg "lacks" s_lacks := ⟨_, _, (c.def_ 12 (d := d_lacks) rfl).choose_spec, He.glo_ok X G (c.fact 12 (f := .glo "lacks") rfl)⟩
  have g13 : Df K mg "behind" s_behind := ⟨_, _, (c.def_ 13 (d := d_behind) rfl).choose_spec, He.glo_ok X G (c.fact 13 (f := .glo "behind") rfl)⟩
  have g14 : Df K mg "most_in" s_most_in := ⟨_, _, (c.def_ 14 (d := d_most_in) rfl).choose_spec, He.glo_ok X G (c.fact 14 (f := .glo "most_in") rfl)⟩
  have g15 : Df K mg "does" s_does := ⟨_, _, (c.def_ 15 (d := d_does) rfl).choose_spec, He.glo_ok X G (c.fact 15 (f := .glo "does") rfl)⟩
  have g16 : Df K mg "round_of" s_round_of := ⟨_, _, (c.def_ 16 (d := d_round_of) rfl).choose_spec, He.glo_ok X G (c.fact 16 (f := .glo "round_of") rfl)⟩
  have g17 : Df K mg "lives" s_lives := ⟨_, _, (c.def_ 17 (d := d_lives) rfl).choose_spec, He.glo_ok X G (c.fact 17 (f := .glo "lives") rfl)⟩
  have g18 : Df K mg "need_live" s_need_live := ⟨_, _, (c.def_ 18 (d := d_need_live) rfl).choose_spec, He.glo_ok X G (c.fact 18 (f := .glo "need_live") rfl)⟩
  have g19 : Df K mg "need_few" s_need_few := ⟨_, _, (c.def_ 19 (d := d_need_few) rfl).choose_spec, He.glo_ok X G (c.fact 19 (f := .glo "need_few") rfl)⟩
  have g20 : Df K mg "needed" s_needed := ⟨_, _, (c.def_ 20 (d := d_needed) rfl).choose_spec, He.glo_ok X G (c.fact 20 (f := .glo "needed") rfl)⟩
  have g21 : Df K mg "needs_in" s_needs_in := ⟨_, _, (c.def_ 21 (d := d_needs_in) rfl).choose_spec, He.glo_ok X G (c.fact 21 (f := .glo "needs_in") rfl)⟩
  have g22 : Df K mg "steps_in" s_steps_in := ⟨_, _, (c.def_ 22 (d := d_steps_in) rfl).choose_spec, He.glo_ok X G (c.fact 22 (f := .glo "steps_in") rfl)⟩
  have g23 : Df K mg "need_times" s_need_times := ⟨_, _, (c.def_ 23 (d := d_need_times) rfl).choose_spec, He.glo_ok X G (c.fact 23 (f := .glo "need_times") rfl)⟩
  have g24 : Df K mg "need_timed" s_need_timed := ⟨_, _, (c.def_ 24 (d := d_need_timed) rfl).choose_spec, He.glo_ok X G (c.fact 24 (f := .glo "need_timed") rfl)⟩
  have g25 : Df K mg "longer_ring" s_longer_ring := ⟨_, _, (c.def_ 25 (d := d_longer_ring) rfl).choose_spec, He.glo_ok X G (c.fact 25 (f := .glo "longer_ring") rfl)⟩
  have g26 : Df K mg "mean_of" s_mean_of := ⟨_, _, (c.def_ 26 (d := d_mean_of) rfl).choose_spec, He.glo_ok X G (c.fact 26 (f := .glo "mean_of") rfl)⟩
  have g27 : Df K mg "slowest" s_slowest := ⟨_, _, (c.def_ 27 (d := d_slowest) rfl).choose_spec, He.glo_ok X G (c.fact 27 (f := .glo "slowest") rfl)⟩
  have g28 : Df K mg "mean_time" s_mean_time := ⟨_, _, (c.def_ 28 (d := d_mean_time) rfl).choose_spec, He.glo_ok X G (c.fact 28 (f := .glo "mean_time") rfl)⟩
  have g29 : Df K mg "slow_ring" s_slow_ring := ⟨_, _, (c.def_ 29 (d := d_slow_ring) rfl).choose_spec, He.glo_ok X G (c.fact 29 (f := .glo "slow_ring") rfl)⟩
  have g30 : Df K mg "shows_slow_ring" s_shows_slow_ring := ⟨_, _, (c.def_ 30 (d := d_shows_slow_ring) rfl).choose_spec, He.glo_ok X G (c.fact 30 (f := .glo "shows_slow_ring") rfl)⟩
  have g31 : Df K mg "is_step" s_is_step := ⟨_, _, (c.def_ 31 (d := d_is_step) rfl).choose_spec, He.glo_ok X G (c.fact 31 (f := .glo "is_step") rfl)⟩
  have g32 : Df K mg "_law_taken" s_law_taken := ⟨_, _, (c.def_ 32 (d := d_law_taken) rfl).choose_spec, He.glo_ok X G (c.fact 32 (f := .glo "_law_taken") rfl)⟩
  have g33 : Df K mg "_law_pick" s_law_pick := ⟨_, _, (c.def_ 33 (d := d_law_pick) rfl).choose_spec, He.glo_ok X G (c.fact 33 (f := .glo "_law_pick") rfl)⟩
  have g34 : Df K mg "_law_gcd" s_law_gcd := ⟨_, _, (c.def_ 34 (d := d_law_gcd) rfl).choose_spec, He.glo_ok X G (c.fact 34 (f := .glo "_law_gcd") rfl)⟩
  have g35 : Df K mg "_law_flow" s_law_flow := ⟨_, _, (c.def_ 35 (d := d_law_flow) rfl).choose_spec, He.glo_ok X G (c.fact 35 (f := .glo "_law_flow") rfl)⟩
  have g36 : Df K mg "_law_ratio" s_law_ratio := ⟨_, _, (c.def_ 36 (d := d_law_ratio) rfl).choose_spec, He.glo_ok X G (c.fact 36 (f := .glo "_law_ratio") rfl)⟩
  have g37 : Df K mg "_law_joined" s_law_joined := ⟨_, _, (c.def_ 37 (d := d_law_joined) rfl).choose_spec, He.glo_ok X G (c.fact 37 (f := .glo "_law_joined") rfl)⟩
  have g38 : Df K mg "_law_round" s_law_round := ⟨_, _, (c.def_ 38 (d := d_law_round) rfl).choose_spec, He.glo_ok X G (c.fact 38 (f := .glo "_law_round") rfl)⟩
  have g39 : Df K mg "_law_some" s_law_some := ⟨_, _, (c.def_ 39 (d := d_law_some) rfl).choose_spec, He.glo_ok X G (c.fact 39 (f := .glo "_law_some") rfl)⟩
  have g40 : Df K mg "_law_can" s_law_can := ⟨_, _, (c.def_ 40 (d := d_law_can) rfl).choose_spec, He.glo_ok X G (c.fact 40 (f := .glo "_law_can") rfl)⟩
  have g41 : Df K mg "_law_next" s_law_next := ⟨_, _, (c.def_ 41 (d := d_law_next) rfl).choose_spec, He.glo_ok X G (c.fact 41 (f := .glo "_law_next") rfl)⟩
  have g42 : Df K mg "_law_do" s_law_do := ⟨_, _, (c.def_ 42 (d := d_law_do) rfl).choose_spec, He.glo_ok X G (c.fact 42 (f := .glo "_law_do") rfl)⟩
  have g43 : Df K mg "_law_with" s_law_with := ⟨_, _, (c.def_ 43 (d := d_law_with) rfl).choose_spec, He.glo_ok X G (c.fact 43 (f := .glo "_law_with") rfl)⟩
  have g44 : Df K mg "_law_live" s_law_live := ⟨_, _, (c.def_ 44 (d := d_law_live) rfl).choose_spec, He.glo_ok X G (c.fact 44 (f := .glo "_law_live") rfl)⟩
  have g45 : Df K mg "_law_durations" s_law_durations := ⟨_, _, (c.def_ 45 (d := d_law_durations) rfl).choose_spec, He.glo_ok X G (c.fact 45 (f := .glo "_law_durations") rfl)⟩
  have g46 : Df K mg "_law_needs" s_law_needs := ⟨_, _, (c.def_ 46 (d := d_law_needs) rfl).choose_spec, He.glo_ok X G (c.fact 46 (f := .glo "_law_needs") rfl)⟩
  have g47 : Df K mg "_law_steps" s_law_steps := ⟨_, _, (c.def_ 47 (d := d_law_steps) rfl).choose_spec, He.glo_ok X G (c.fact 47 (f := .glo "_law_steps") rfl)⟩
  have g48 : Df K mg "_law_alike" s_law_alike := ⟨_, _, (c.def_ 48 (d := d_law_alike) rfl).choose_spec, He.glo_ok X G (c.fact 48 (f := .glo "_law_alike") rfl)⟩
  have g49 : Df K mg "_law_less" s_law_less := ⟨_, _, (c.def_ 49 (d := d_law_less) rfl).choose_spec, He.glo_ok X G (c.fact 49 (f := .glo "_law_less") rfl)⟩
  have g50 : Df K mg "_law_mean" s_law_mean := ⟨_, _, (c.def_ 50 (d := d_law_mean) rfl).choose_spec, He.glo_ok X G (c.fact 50 (f := .glo "_law_mean") rfl)⟩
  have h0 : Cal P w K mg base 1 "gcd" spGcd [] := ok_gcd T g1 
  have h1 : Cal P w K mg base 1 "_law_gcd" spGcd [] := ok__law_gcd T g34 
  have h2 : Cal P w K mg base 2 "reduced" spRed [] := ok_reduced T g2 h0
  have h3 : Cal P w K mg base 2 "_law_ratio" spRed [] := ok__law_ratio T g36 h1
  have h4 : Cal P w K mg base 3 "times" spTim [] := ok_times T g3 h2
  have h5 : Cal P w K mg base 1 "is_in" spIsIn [] := ok_is_in T g0 
  have h6 : Cal P w K mg base 1 "_law_less" spLess [] := ok__law_less T g49 
  have h7 : Cal P w K mg base 2 "is_pipe" spIsPipe [] := ok_is_pipe T g4 h5
  have h8 : Cal P w K mg base 3 "need_flow" spNeedFlow [] := ok_need_flow T g5 h5 h7
  have h9 : Cal P w K mg base 1 "marks_in" spMarks [] := ok_marks_in T g8 
  have h10 : Cal P w K mg base 1 "_law_some" spMarks [] := ok__law_some T g39 
  have h11 : Cal P w K mg base 1 "lacks" spLacks [] := ok_lacks T g12 
  have h12 : Cal P w K mg base 1 "behind" spBehind [] := ok_behind T g13 
  have h13 : Cal P w K mg base 1 "_law_can" spCan [] := ok__law_can T g40 
  have h14 : Cal P w K mg base 1 "_law_next" spBehind [] := ok__law_next T g41 
  have h15 : Cal P w K mg base 2 "most_in" spMost [] := ok_most_in T g14 h12 h11 h9
  have h16 : Cal P w K mg base 3 "does" spDoes [] := ok_does T g15 h15
  have h17 : Cal P w K mg base 2 "_law_do" spMost [] := ok__law_do T g42 h13 h14 h10
  have h18 : Cal P w K mg base 1 "_law_with" spWith [] := ok__law_with T g43 
  have h19 : Cal P w K mg base 1 "reach_of" spComp [] := ok_reach_of T g6 
  have h20 : Cal P w K mg base 2 "parts_in" spParts [] := ok_parts_in T g7 h19
  have h21 : Cal P w K mg base 1 "_law_joined" spComp [] := ok__law_joined T g37 
  have h22 : Cal P w K mg base 4 "shares_in" spShares [] := ok_shares_in T g9 h20 h4
  have h23 : Cal P w K mg base 4 "bad_pipe" spBad [] := ok_bad_pipe T g10 h4
  have h24 : Cal P w K mg base 5 "repetitions_in" spReps [] := ok_repetitions_in T g11 h23 h0 h20 h22
  have h25 : Cal P w K mg base 6 "round_of" spReps [] := ok_round_of T g16 h24
  have h26 : Cal P w K mg base 3 "_law_round" spReps [] := ok__law_round T g38 h1 h21 h3
  have h27 : Cal P w K mg base 7 "lives" spLives [] := ok_lives T g17 h16 h25
  have h28 : Cal P w K mg base 8 "need_live" spNeed [] := ok_need_live T g18 h27 h8
  have h29 : Cal P w K mg base 9 "need_few" spNeed [] := ok_need_few T g19 h28 h25
  have h30 : Cal P w K mg base 2 "need_times" spNeedT [] := ok_need_times T g23 h5
  have h31 : Cal P w K mg base 10 "need_timed" spTimed [] := ok_need_timed T g24 h29 h30
  have h32 : Cal P w K mg base 1 "needed" spNeeded [] := ok_needed T g20 
  have h33 : Cal P w K mg base 7 "needs_in" spNeeds [] := ok_needs_in T g21 h32 h25
  have h34 : Cal P w K mg base 8 "steps_in" spSteps [] := ok_steps_in T g22 h33 h25
  have h35 : Cal P w K mg base 3 "longer_ring" spLr [] := ok_longer_ring T g25 h2
  have h36 : Cal P w K mg base 3 "mean_of" spMean [] := ok_mean_of T g26 h2
  have h37 : Cal P w K mg base 4 "slowest" spSlow [] := ok_slowest T g27 h35 h36
  have h38 : Cal P w K mg base 11 "mean_time" spMeanT [] := ok_mean_time T g28 h31 h37 h34
  have h39 : Cal P w K mg base 11 "slow_ring" spRingT [] := ok_slow_ring T g29 h31 h37 h34
  have h40 : Cal P w K mg base 2 "is_step" spIsStep [] := ok_is_step T g31 h5
  have h41 : Cal P w K mg base 11 "shows_slow_ring" spShows [] := ok_shows_slow_ring T g30 h40 h36 h31 h37 h34
  have h42 : Cal P w K mg base 1 "_law_taken" (spTake K) [] := ok__law_taken T g32 
  have h43 : Cal P w K mg base 2 "_law_pick" (spPick K) [] := ok__law_pick T g33 h42
  have h44 : Cal P w K mg base 3 "_law_flow" (spFlow K) [] := ok__law_flow T g35 h1 h43 h42
  have h45 : Cal P w K mg base 3 "_law_durations" (spDur K) [] := ok__law_durations T g45 h43 h42
  have h46 : Cal P w K mg base 4 "_law_live" (spLive K) [] := ok__law_live T g44 h17 h44 h43 h26 h10 h18
  have h47 : Cal P w K mg base 4 "_law_needs" spLNeeds [] := ok__law_needs T g46 h26
  have h48 : Cal P w K mg base 1 "_law_alike" spNever [] := ok_alike0 g48 
  have h49 : Cal P w K mg base 2 "_law_alike" spAlI [] := ok_alikeI T g48 h48
  have h50 : Cal P w K mg base 3 "_law_alike" spAlP [] := ok_alikeP T g48 h49
  have h51 : Cal P w K mg base 3 "_law_mean" spLMean [] := ok__law_mean T g50 h6 h3
  have h52 : Cal P w K mg base 5 "_law_steps" spLSteps [] := ok__law_steps T g47 h47 h26
  exact ok_law T F h50 h45 h46 h51 h3 h52 h38 h41 h39
end Dl
theorem PySem.Challenge.cw_rateflows_k46_whole_mean_times_holds : PySem.Challenge.rw_rateflows_k46_whole_mean_times.Holds := by
  exact Rf.head Dl.lawOk
