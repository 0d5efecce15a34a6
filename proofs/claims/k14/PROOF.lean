import PyProof.Rows.All
import Wide.All
import OpenK.AllK
import Wide.FinOn
import PyProof.EqAt
import PyProof.EqKinds
import PyProof.TupleCall
import HandS.ForMost
import HandS.Exc
import HandS.ExcOwn
import HandS.TryOnly
import HandS.TryMany
import HandS.CallSlots
import HandS.WordsExc
import HandS.IsInst
import HandS.Style
import HandS.TupAny
import HandS.Deep
import HandS.Wide
import HandS.Flow
import HandS.Lambda
import HandS.EndTab
import HandS.TupMul
import HandS.More
import HandS.RaiseMore
import HandS.ExcInit
import HandS.ExcField
import HandS.Nested
import KE.KExcSuper
import HandS.Zip
import HandS.Walk
import KE.GoesEnum
import HandS.Strs
import HandS.SetKeys
import KE.SortData
import KE.SortKeyHeap
import PySem.Challenge.RW_hillrooms_k14_rows_woven
set_option Elab.async false
set_option linter.all false
set_option maxRecDepth 100000
set_option maxHeartbeats 4000000
/-! DL: data as plain Lean values over the hand layer; a store of the mutable objects by number. -/
namespace DL
open PySem PySem.Spec PyProof.Rows L2

abbrev D := PyData
/-- what a name holds: data, or a mutable object by its number in the store -/
inductive Val where
  | d (x : PyData)
  | r (i : Nat)
  /-- a list of another's that is only read (the script) -/
  | s (xs : List PyData)
/-- a mutable object; dead: given up; ro: a list that is only read (the script) -/
inductive Ob where
  | dead
  | ro (xs : List Val)
  | lst (xs : List Val)
  | dct (kvs : List (Key × Val))
  | ins (C : Addr) (fs : List (Str × Val))
abbrev Sto := List Ob
abbrev Env := List (Option Val)
/-- the mutable objects at hand by number; the callers' other ones -/
structure Ids where
  l : List (Option Addr)
  o : List Addr
/-- an address that is no mutable object's -/
def Fr (m : Ids) (a : Addr) : Prop := some a ∉ m.l ∧ a ∉ m.o
abbrev noH : Hp := fun _ => none

/-! ### the relation of data -/
mutual
inductive RD (K : PySem.W.Frag) (m : Ids) (H : Hp) : V → PyData → Prop
  | non : RD K m H .non .none
  | bl (b : Bool) : RD K m H (.bl b) (.bool b)
  | int (i : Int) : RD K m H (.int i) (.int i)
  | str (x : Str) : RD K m H (.str x) (.str x)
  | lst {a : Addr} {xs : List V} {ds : List PyData} : H a = some (.lst xs) → Fr m a → RDs K m H xs ds → RD K m H (.ref a) (.list ds)
  | tup {a : Addr} {xs : List V} {ds : List PyData} : (Rd H a (.tup xs) ∧ Fr m a) ∨ SqT K noH a xs → RDs K m H xs ds → RD K m H (.ref a) (.tuple ds)
inductive RDs (K : PySem.W.Frag) (m : Ids) (H : Hp) : List V → List PyData → Prop
  | nil : RDs K m H [] []
  | cons {v : V} {vs : List V} {d : PyData} {ds : List PyData} : RD K m H v d → RDs K m H vs ds → RDs K m H (v :: vs) (d :: ds)
end
inductive RV (K : PySem.W.Frag) (m : Ids) (H : Hp) : V → Val → Prop
  | d {v : V} {x : PyData} : RD K m H v x → RV K m H v (.d x)
  | r {a : Addr} {i : Nat} : m.l[i]? = some (some a) → RV K m H (.ref a) (.r i)
  | z {v : V} {i : Nat} : m.l[i]? = some none → RV K m H v (.r i)
  | s {a : Addr} {vs : List V} {xs : List PyData} : (Rd H a (.lst vs) ∧ Fr m a) ∨ SqL K noH a vs → RDs K m H vs xs → RV K m H (.ref a) (.s xs)
abbrev RVs (K : PySem.W.Frag) (m : Ids) (H : Hp) : List V → List Val → Prop := Paired (RV K m H)
def RO (K : PySem.W.Frag) (m : Ids) (H : Hp) : Option Addr → Ob → Prop
  | _, .dead => True
  | some a, .ro ws => ∃ vs, SqL K H a vs ∧ RVs K m H vs ws
  | some a, .lst ws => ∃ vs, H a = some (.lst vs) ∧ RVs K m H vs ws
  | some a, .dct kvs => ∃ vs, H a = some (.dK vs) ∧ Paired (fun (p : Key × V) (q : Key × Val) => p.1 = q.1 ∧ RV K m H p.2 q.2) vs kvs
  | some a, .ins C fs => ∃ dx vs, H a = some (.ins C dx vs) ∧ Paired (fun (p : Str × V) (q : Str × Val) => p.1 = q.1 ∧ RV K m H p.2 q.2) vs fs
  | none, _ => False
/-- the defs that make functions of their own: the tables of their code objects (they only grow) -/
def lamNames : List Str := ["weave", "branch_plan"]
def refAddr : PySem.Value → Addr
  | .ref P => P
  | _ => 0
def tabOf (p : Addr × Obj) : Option (Addr × Addr × Str) := match p.2.data with
  | .fields vs => match vs.toList with
    | _ :: PySem.Value.str n _ :: _ => if n ∈ lamNames then some (p.1, refAddr (vs.getD 11 .none), n ++ ".<locals>.<lambda>") else none
    | _ => none
  | _ => none
/-- the code objects of these, their tables, what they make -/
def TC (K : PySem.W.Frag) : List (Addr × Addr × Str) := K.filterMap tabOf
def TK (K : PySem.W.Frag) : List (Addr × Str) := (TC K).map (·.2)
/-- the tables stand, beside all that is at hand -/
structure TbOk (K : PySem.W.Frag) (m : Ids) (H : Hp) : Prop where
  at_ : ∀ p ∈ TK K, LamX.TabS H p.1 p.2
  fr : ∀ p ∈ TK K, Fr m p.1
  one : ∀ p ∈ TK K, ∀ q ∈ TK K, p.1 = q.1 → p.2 = q.2
structure Rel (K : PySem.W.Frag) (m : Ids) (H : Hp) (S : Sto) : Prop where
  len : m.l.length = S.length
  inj : ∀ (i j : Nat) (a : Addr), m.l[i]? = some (some a) → m.l[j]? = some (some a) → i = j
  ob : ∀ (i : Nat) (x : Option Addr) (o : Ob), m.l[i]? = some x → S[i]? = some o → RO K m H x o
  dd : ∀ (i : Nat), m.l[i]? = some none → S[i]? = some .dead
  tr : ∀ (i : Nat) (a : Addr), m.l[i]? = some (some a) → ∃ o, H a = some o
  out : ∀ a ∈ m.o, (∃ o, H a = some o) ∧ some a ∉ m.l
  tb : TbOk K m H
/-- from one stage to a later one: what is not at hand stays; data stays data; numbers stay (or their objects are given up) -/
structure Ext (m : Ids) (H : Hp) (m' : Ids) (H' : Hp) : Prop where
  kp : ∀ (a : Addr) (o : HO), H a = some o → some a ∉ m.l → ((∀ ps, o ≠ .tbl ps) → H' a = some o) ∧ some a ∉ m'.l
  ids : ∀ (i : Nat) (x : Option Addr), m.l[i]? = some x → m'.l[i]? = some x ∨ m'.l[i]? = some none
  out : (∀ a ∈ m.o, a ∈ m'.o) ∧ ∀ a ∈ m'.o, a ∈ m.o ∨ H a = none
  th : ∀ (a : Addr) (o : HO), H a = some o → ∃ o', H' a = some o'
/-- the slots -/
structure REnv (K : PySem.W.Frag) (m : Ids) (H : Hp) (st : L2.St) (en : Env) : Prop where
  len : st.length = en.length
  at_ : ∀ (i : Nat) (w : Val), en[i]? = some (some w) → ∃ v, st[i]? = some (some v) ∧ RV K m H v w

section
variable {K : PySem.W.Frag} {m m1 m2 : Ids} {H H1 H2 : Hp} {S : Sto}
theorem Ext.keep {m' : Ids} {H' : Hp} (e : Ext m H m' H') (a : Addr) (o : HO) (h : H a = some o) (n : some a ∉ m.l) (nt : ∀ ps, o ≠ .tbl ps := by intro ps z; cases z) : H' a = some o ∧ some a ∉ m'.l := ⟨(e.kp a o h n).1 nt, (e.kp a o h n).2⟩
theorem Ext.refl : Ext m H m H := ⟨fun _ _ h n => ⟨fun _ => h, n⟩, fun _ _ h => .inl h, ⟨fun _ h => h, fun _ h => .inl h⟩, fun _ o h => ⟨o, h⟩⟩
theorem Ext.trans (a : Ext m H m1 H1) (b : Ext m1 H1 m2 H2) : Ext m H m2 H2 :=
  ⟨fun x o h n => ⟨fun nt => ((b.kp x o ((a.kp x o h n).1 nt) (a.kp x o h n).2).1 nt), by
    obtain ⟨o1, h1⟩ := a.th x o h
    exact (b.kp x o1 h1 (a.kp x o h n).2).2⟩, fun i x h => by
    rcases a.ids i x h with h | h
    · exact b.ids i x h
    · rcases b.ids i _ h with h | h
      · exact .inr h
      · exact .inr h, ⟨fun x h => b.out.1 x (a.out.1 x h), fun x h => by
    rcases b.out.2 x h with h | h
    · exact a.out.2 x h
    · cases q : H x with
      | none => exact .inr rfl
      | some o =>
        obtain ⟨o', q'⟩ := a.th x o q
        rw [h] at q'
        cases q'⟩, fun x o h => let ⟨o1, h1⟩ := a.th x o h; b.th x o1 h1⟩
theorem Ext.fre (e : Ext m H m1 H1) (a : Addr) (o : HO) (h : H a = some o) (n : Fr m a) : Fr m1 a := ⟨(e.kp a o h n.1).2, fun z => by
  rcases e.out.2 a z with z | z
  · exact n.2 z
  · rw [h] at z
    cases z⟩
theorem rd_ext {a : Addr} {u : HO} (e : Ext m H m1 H1) (h : Rd H a u) (n : Fr m a) (nt : ∀ ps, u ≠ .tbl ps := by intro ps z; cases z) : Rd H1 a u ∧ Fr m1 a := by
  rcases h with h | ⟨o, h⟩
  · exact ⟨.inl (e.keep a _ h n.1 nt).1, e.fre a _ h n⟩
  · exact ⟨.inr ⟨o, (e.keep a _ h n.1).1⟩, e.fre a _ h n⟩
mutual
theorem RD.mono (e : Ext m H m1 H1) {v : V} {x : PyData} : RD K m H v x → RD K m1 H1 v x
  | .non => .non
  | .bl b => .bl b
  | .int i => .int i
  | .str z => .str z
  | .lst h n hs => .lst (e.keep _ _ h n.1).1 (e.fre _ _ h n) (RDs.mono e hs)
  | .tup (.inl h) hs => .tup (.inl (rd_ext e h.1 h.2)) (RDs.mono e hs)
  | .tup (.inr h) hs => .tup (.inr h) (RDs.mono e hs)
theorem RDs.mono (e : Ext m H m1 H1) {vs : List V} {xs : List PyData} : RDs K m H vs xs → RDs K m1 H1 vs xs
  | .nil => .nil
  | .cons h t => .cons (RD.mono e h) (RDs.mono e t)
end
/-- the same of what no mutable object is: what is another's may change -/
structure Exo (m : Ids) (H : Hp) (m' : Ids) (H' : Hp) : Prop where
  kp : ∀ (a : Addr) (o : HO), H a = some o → Fr m a → (∀ ps, o ≠ .tbl ps) → H' a = some o ∧ Fr m' a
  ids : ∀ (i : Nat) (x : Option Addr), m.l[i]? = some x → m'.l[i]? = some x ∨ m'.l[i]? = some none
theorem Exo.keep {m' : Ids} {H' : Hp} (e : Exo m H m' H') (a : Addr) (o : HO) (h : H a = some o) (n : Fr m a) (nt : ∀ ps, o ≠ .tbl ps := by intro ps z; cases z) : H' a = some o ∧ Fr m' a := e.kp a o h n nt
theorem Ext.exo (e : Ext m H m1 H1) : Exo m H m1 H1 := ⟨fun a o h n nt => ⟨(e.keep a o h n.1 nt).1, e.fre a o h n⟩, e.ids⟩
theorem Exo.refl : Exo m H m H := ⟨fun _ _ h n _ => ⟨h, n⟩, fun _ _ h => .inl h⟩
theorem Exo.trans (a : Exo m H m1 H1) (b : Exo m1 H1 m2 H2) : Exo m H m2 H2 :=
  ⟨fun x o h n nt => let q := a.keep x o h n nt; b.keep x o q.1 q.2 nt, fun i x h => by
    rcases a.ids i x h with h | h
    · exact b.ids i x h
    · rcases b.ids i _ h with h | h
      · exact .inr h
      · exact .inr h⟩
theorem rd_exo {a : Addr} {u : HO} (e : Exo m H m1 H1) (h : Rd H a u) (n : Fr m a) (nt : ∀ ps, u ≠ .tbl ps := by intro ps z; cases z) : Rd H1 a u ∧ Fr m1 a := by
  rcases h with h | ⟨o, h⟩
  · exact ⟨.inl (e.keep a _ h n nt).1, (e.keep a _ h n nt).2⟩
  · exact ⟨.inr ⟨o, (e.keep a _ h n).1⟩, (e.keep a _ h n).2⟩
mutual
theorem RD.mox (e : Exo m H m1 H1) {v : V} {x : PyData} : RD K m H v x → RD K m1 H1 v x
  | .non => .non
  | .bl b => .bl b
  | .int i => .int i
  | .str z => .str z
  | .lst h n hs => .lst (e.keep _ _ h n).1 (e.keep _ _ h n).2 (RDs.mox e hs)
  | .tup (.inl h) hs => .tup (.inl (rd_exo e h.1 h.2)) (RDs.mox e hs)
  | .tup (.inr h) hs => .tup (.inr h) (RDs.mox e hs)
theorem RDs.mox (e : Exo m H m1 H1) {vs : List V} {xs : List PyData} : RDs K m H vs xs → RDs K m1 H1 vs xs
  | .nil => .nil
  | .cons h t => .cons (RD.mox e h) (RDs.mox e t)
end
theorem RV.mono (e : Ext m H m1 H1) {v : V} {x : Val} (h : RV K m H v x) : RV K m1 H1 v x := by
  cases h with
  | d h => exact .d (h.mono e)
  | r h =>
    rcases e.ids _ _ h with h | h
    · exact .r h
    · exact .z h
  | z h =>
    rcases e.ids _ _ h with h | h
    · exact .z h
    · exact .z h
  | s h hs =>
    refine .s ?_ (RDs.mono e hs)
    rcases h with h | h
    · exact .inl (rd_ext e h.1 h.2)
    · exact .inr h
theorem RVs.mono (e : Ext m H m1 H1) : ∀ {vs : List V} {xs : List Val}, RVs K m H vs xs → RVs K m1 H1 vs xs
  | _, _, .nil => .nil
  | _, _, .cons h t => .cons (h.mono e) (RVs.mono e t)
theorem REnv.mono {st : L2.St} {en : Env} (e : Ext m H m1 H1) (h : REnv K m H st en) : REnv K m1 H1 st en :=
  ⟨h.len, fun i w hw => let ⟨v, h1, h2⟩ := h.at_ i w hw; ⟨v, h1, h2.mono e⟩⟩
theorem sqT_of {a : Addr} {xs : List V} (h : (Rd H a (.tup xs) ∧ Fr m a) ∨ SqT K noH a xs) : SqT K H a xs := by
  rcases h with h | h
  · exact .inl h.1
  · rcases h with h | h
    · rcases h with h | ⟨_, h⟩ <;> cases h
    · exact .inr h
theorem sqL_of {a : Addr} {xs : List V} (h : (Rd H a (.lst xs) ∧ Fr m a) ∨ SqL K noH a xs) : SqL K H a xs := by
  rcases h with h | h
  · exact .inl h.1
  · rcases h with h | h
    · rcases h with h | ⟨_, h⟩ <;> cases h
    · exact .inr h
theorem RDs.length : ∀ {vs : List V} {xs : List PyData}, RDs K m H vs xs → vs.length = xs.length
  | _, _, .nil => rfl
  | _, _, .cons _ t => congrArg (· + 1) (RDs.length t)
theorem RDs.get : ∀ {vs : List V} {xs : List PyData} {i : Nat} {x : PyData}, RDs K m H vs xs → xs[i]? = some x → ∃ v, vs[i]? = some v ∧ RD K m H v x
  | _, _, _, _, .nil, e => by simp at e
  | _, _, 0, _, .cons h _, e => by
    simp at e
    subst e
    exact ⟨_, rfl, h⟩
  | _, _, i + 1, x, .cons _ t, e => by
    obtain ⟨v, h1, h2⟩ := RDs.get (i := i) (x := x) t (by simpa using e)
    exact ⟨v, by simpa using h1, h2⟩
theorem RDs.get' : ∀ {vs : List V} {xs : List PyData} {i : Nat} {v : V}, RDs K m H vs xs → vs[i]? = some v → ∃ x, xs[i]? = some x ∧ RD K m H v x
  | _, _, _, _, .nil, e => by simp at e
  | _, _, 0, _, .cons h _, e => by
    simp at e
    subst e
    exact ⟨_, rfl, h⟩
  | _, _, i + 1, x, .cons _ t, e => by
    obtain ⟨v, h1, h2⟩ := RDs.get' (i := i) (v := x) t (by simpa using e)
    exact ⟨v, by simpa using h1, h2⟩
theorem RDs.append : ∀ {vs us : List V} {xs ys : List PyData}, RDs K m H vs xs → RDs K m H us ys → RDs K m H (vs ++ us) (xs ++ ys)
  | _, _, _, _, .nil, h => h
  | _, _, _, _, .cons h t, h' => .cons h (RDs.append t h')
theorem RDs.take : ∀ {vs : List V} {xs : List PyData} (n : Nat), RDs K m H vs xs → RDs K m H (vs.take n) (xs.take n)
  | _, _, 0, _ => .nil
  | _, _, _ + 1, .nil => .nil
  | _, _, n + 1, .cons h t => .cons h (RDs.take n t)
theorem RDs.drop : ∀ {vs : List V} {xs : List PyData} (n : Nat), RDs K m H vs xs → RDs K m H (vs.drop n) (xs.drop n)
  | _, _, 0, h => h
  | _, _, _ + 1, .nil => .nil
  | _, _, n + 1, .cons _ t => RDs.drop n t
theorem RDs.reverse {vs : List V} {xs : List PyData} (h : RDs K m H vs xs) : RDs K m H vs.reverse xs.reverse := by
  induction vs generalizing xs with
  | nil =>
    cases h
    exact .nil
  | cons v vs ih =>
    cases h with
    | cons h t =>
      rw [List.reverse_cons, List.reverse_cons]
      exact (ih t).append (.cons h .nil)
theorem RDs.vals : ∀ {vs : List V} {xs : List PyData}, RDs K m H vs xs → RVs K m H vs (xs.map Val.d)
  | _, _, .nil => .nil
  | _, _, .cons h t => .cons (.d h) t.vals
theorem RDs.of_vals : ∀ {vs : List V} {xs : List PyData}, RVs K m H vs (xs.map Val.d) → RDs K m H vs xs
  | _, [], .nil => .nil
  | _, _ :: _, .cons (.d h) t => .cons h (RDs.of_vals t)
theorem RDs.rep {vs : List V} {xs : List PyData} (h : RDs K m H vs xs) : ∀ k : Nat, RDs K m H (List.replicate k vs).flatten (List.replicate k xs).flatten
  | 0 => .nil
  | k + 1 => by
    rw [List.replicate_succ, List.flatten_cons, List.replicate_succ, List.flatten_cons]
    exact h.append (h.rep k)
/-- for the layer's == -/
theorem RD.dp (h : RD K m H v x) : Dp K H v x := by
  have key : ∀ n : Nat, (∀ v x, sizeOf x < n → RD K m H v x → Dp K H v x) ∧ (∀ vs (xs : List PyData), sizeOf xs < n → RDs K m H vs xs → DpAll K H vs xs) := by
    intro n
    induction n with
    | zero => exact ⟨fun _ _ h => absurd h (Nat.not_lt_zero _), fun _ _ h => absurd h (Nat.not_lt_zero _)⟩
    | succ n ih =>
      refine ⟨fun v x hs h => ?_, fun vs xs hs h => ?_⟩
      · cases h with
        | non => exact .non
        | bl b => exact .bl b
        | int i => exact .int i
        | str z => exact .str z
        | lst h1 h2 h3 => exact .lst (SqL.of h1) (ih.2 _ _ (by simp at hs; omega) h3)
        | tup h1 h2 => exact .tup (sqT_of h1) (ih.2 _ _ (by simp at hs; omega) h2)
      · cases h with
        | nil => exact .nil
        | cons h t => exact .cons (ih.1 _ _ (by simp at hs; omega) h) (ih.2 _ _ (by simp at hs; omega) t)
  exact (key (sizeOf x + 1)).1 v x (Nat.lt_succ_self _) h
end
end DL

set_option Elab.async false
set_option linter.all false
set_option maxRecDepth 100000
set_option maxHeartbeats 4000000
/-! DL2: judgements over data and store; the plain rules. -/
namespace DL
open PySem PySem.Spec PyProof.Rows L2

structure Exc where
  name : Str
  arg : PyData
abbrev KE := Val → Sto → Prop
abbrev KB := Bool → Sto → Prop
abbrev KA := List Val → Sto → Prop
abbrev XQ := Exc → Env → Sto → Prop
abbrev WE := XQ → Env → Sto → KE → Prop
abbrev WT := XQ → Env → Sto → KB → Prop
abbrev WA := XQ → Env → Sto → KA → Prop
abbrev Pt := Env → Sto → Prop
structure DN where
  nx : Pt
  rt : KE
  bk : Pt := fun _ _ => False
  ct : Pt := fun _ _ => False
abbrev WS := XQ → DN → Env → Sto → Prop
abbrev Bs := Ids × Hp

def Post (K : PySem.W.Frag) (m : Ids) (H : Hp) (k : KE) : VK := fun v H' => ∃ m' S' w, Ext m H m' H' ∧ Rel K m' H' S' ∧ RV K m' H' v w ∧ k w S'
def PostB (K : PySem.W.Frag) (m : Ids) (H : Hp) (k : KB) (b : Bool) (H' : Hp) : Prop := ∃ m' S', Ext m H m' H' ∧ Rel K m' H' S' ∧ k b S'
def PostA (K : PySem.W.Frag) (m : Ids) (H : Hp) (k : KA) (vs : List V) (H' : Hp) : Prop := ∃ m' S' ws, Ext m H m' H' ∧ Rel K m' H' S' ∧ RVs K m' H' vs ws ∧ k ws S'
def PostS (K : PySem.W.Frag) (m : Ids) (H : Hp) (p : Pt) (st : L2.St) (H' : Hp) : Prop := ∃ m' S' en, Ext m H m' H' ∧ Rel K m' H' S' ∧ REnv K m' H' st en ∧ p en S'
/-- what it says of a class of the errors -/
structure XC (K : PySem.W.Frag) (mg : Str → Option Value) (R fI : Addr) (x : Str) (C : Addr) : Prop where
  mgx : mg x = some (.ref C)
  cls : ∃ q N bs bm sn sub ab col dd k0 k1 k2 k3 k5, K.lookup C = some (excClassObj x q C N bs bm true sn sub ab col dd k0 k1 k2 k3 k5 "ValueError.__new__") ∧ ((bm = .ref R :: PySem.HandSPX.veTail ∧ C ≠ R) ∨ (x = "Refused" ∧ C = R ∧ bm = PySem.HandSPX.veTail))
  sa : PySem.W.findIn K (.ref C) "__setattr__" = some (some (.builtin "object.__setattr__"))
  ga : PySem.W.findIn K (.ref C) "__getattribute__" = some (some (.builtin "BaseException.__getattribute__"))
  gg : PySem.W.findIn K (.ref C) "__getattr__" = some none
  wh : PySem.W.findIn K (.ref C) "what" = some none
  ini : PySem.W.findIn K (.ref C) "__init__" = some (some (.ref fI))
  kC : PySem.W.keepIn K (.ref C) = true
def RX (K : PySem.W.Frag) (mg : Str → Option Value) (m : Ids) (H : Hp) (cls : Value) (d : Option Addr) (x : Exc) : Prop :=
  ∃ C dd v, mg x.name = some (.ref C) ∧ cls = .ref C ∧ d = some dd ∧ H dd = some (.xd [("what", v)]) ∧ Fr m dd ∧ RD K m H v x.arg ∧ ∃ R fI, XC K mg R fI "Refused" R ∧ XC K mg R fI x.name C
def lX (X : Cx) (B : Bs) (W : XQ) : WX := fun cls d st H => ∃ m en S x, Ext B.1 B.2 m H ∧ Rel X.K m H S ∧ REnv X.K m H st en ∧ RX X.K X.mg m H cls d x ∧ W x en S
/-- the stage at hand -/
structure Stg (K : PySem.W.Frag) (B : Bs) (m : Ids) (H : Hp) (S : Sto) (st : L2.St) (en : Env) : Prop where
  ex : Ext B.1 B.2 m H
  rel : Rel K m H S
  env : REnv K m H st en
def lE (K : PySem.W.Frag) (B : Bs) (F : WE) (W : XQ) : TE := fun st H Q => ∃ m en S k, Stg K B m H S st en ∧ F W en S k ∧ ∀ v H', Post K m H k v H' → Q v H'
def lT (K : PySem.W.Frag) (B : Bs) (F : WT) (W : XQ) : TT := fun st H Q => ∃ m en S k, Stg K B m H S st en ∧ F W en S k ∧ ∀ b H', PostB K m H k b H' → Q b H'
def lA (K : PySem.W.Frag) (B : Bs) (F : WA) (W : XQ) : TA := fun st H Q => ∃ m en S k, Stg K B m H S st en ∧ F W en S k ∧ ∀ vs H', PostA K m H k vs H' → Q vs H'
def lS (K : PySem.W.Frag) (B : Bs) (F : WS) (W : XQ) : TS := fun Dn st H => ∃ m en S dn, Stg K B m H S st en ∧ F W dn en S ∧ (∀ st' H', PostS K m H dn.nx st' H' → Dn.nx st' H') ∧ (∀ v H', Post K m H dn.rt v H' → Dn.rt v H') ∧
  (∀ st' H', PostS K m H dn.bk st' H' → Dn.bk st' H') ∧ (∀ st' H', PostS K m H dn.ct st' H' → Dn.ct st' H')
structure DE (X : Cx) (e : Expr) (F : WE) : Prop where
  go : ∀ (B : Bs) (W : XQ), Takes X (lX X B W) → PE X e (lE X.K B F W)
structure DT (X : Cx) (e : Expr) (F : WT) : Prop where
  go : ∀ (B : Bs) (W : XQ), Takes X (lX X B W) → PT X e (lT X.K B F W)
structure DW (X : Cx) (e : Expr) (F : WT) : Prop where
  go : ∀ (B : Bs) (W : XQ), Takes X (lX X B W) → PW X e (lT X.K B F W)
structure DA (X : Cx) (es : List Expr) (F : WA) : Prop where
  go : ∀ (B : Bs) (W : XQ), Takes X (lX X B W) → PA X es (lA X.K B F W)
structure DS (X : Cx) (st : Stmt) (F : WS) : Prop where
  go : ∀ (B : Bs) (W : XQ), Takes X (lX X B W) → PS X st (lS X.K B F W)
structure DSs (X : Cx) (st : List Stmt) (F : WS) : Prop where
  go : ∀ (B : Bs) (W : XQ), Takes X (lX X B W) → PSs X st (lS X.K B F W)
theorem DW.dt {X : Cx} {e : Expr} {F : WT} (h : DW X e F) : DT X e F := ⟨fun B W tk => (h.go B W tk).pt⟩

section
variable {K : PySem.W.Frag} {B : Bs} {m m1 m2 : Ids} {H H1 H2 : Hp} {S S1 : Sto} {st : L2.St} {en : Env} {k : KE}
theorem Post.tr {v : V} (e : Ext m H m1 H1) (h : Post K m1 H1 k v H2) : Post K m H k v H2 := let ⟨m', S', w, a, b⟩ := h; ⟨m', S', w, e.trans a, b⟩
theorem PostB.tr {k : KB} {v : Bool} (e : Ext m H m1 H1) (h : PostB K m1 H1 k v H2) : PostB K m H k v H2 := let ⟨m', S', a, b⟩ := h; ⟨m', S', e.trans a, b⟩
theorem PostA.tr {k : KA} {v : List V} (e : Ext m H m1 H1) (h : PostA K m1 H1 k v H2) : PostA K m H k v H2 := let ⟨m', S', w, a, b⟩ := h; ⟨m', S', w, e.trans a, b⟩
theorem PostS.tr {p : Pt} (e : Ext m H m1 H1) (h : PostS K m1 H1 p st H2) : PostS K m H p st H2 := let ⟨m', S', w, a, b⟩ := h; ⟨m', S', w, e.trans a, b⟩
theorem Stg.next (g : Stg K B m H S st en) (e : Ext m H m1 H1) (r : Rel K m1 H1 S1) : Stg K B m1 H1 S1 st en := ⟨g.ex.trans e, r, g.env.mono e⟩
theorem Post.here {v : V} {w : Val} (r : Rel K m H S) (a : RV K m H v w) (h : k w S) : Post K m H k v H := ⟨m, S, w, Ext.refl, r, a, h⟩
theorem PostB.here {k : KB} {b : Bool} (r : Rel K m H S) (h : k b S) : PostB K m H k b H := ⟨m, S, Ext.refl, r, h⟩

/-! ### a new object; a mutable one changed -/
theorem Rel.new (r : Rel K m H S) {p : Addr} (h : H p = none) : some p ∉ m.l := fun z => by
  obtain ⟨i, hi, e⟩ := List.getElem_of_mem z
  obtain ⟨o, q⟩ := r.tr i p (by rw [List.getElem?_eq_getElem hi, e])
  rw [h] at q
  cases q
theorem Rel.newF (r : Rel K m H S) {p : Addr} (h : H p = none) : Fr m p := ⟨r.new h, fun z => by
  obtain ⟨⟨o, q⟩, _⟩ := r.out p z
  rw [h] at q
  cases q⟩
theorem upd_th {H : Hp} {p : Addr} {o : HO} (a : Addr) (u : HO) (h : H a = some u) : ∃ u', upd H p o a = some u' := by
  by_cases e : a = p
  · subst e
    exact ⟨o, upd_same⟩
  · exact ⟨u, by rw [upd_ne e]; exact h⟩
theorem Ext.new {p : Addr} {o : HO} (h : H p = none) : Ext m H m (upd H p o) :=
  ⟨fun a u e n => ⟨fun _ => by rw [upd_ne (ne_of_none e h)]; exact e, n⟩, fun _ _ e => .inl e, ⟨fun _ h => h, fun _ h => .inl h⟩, upd_th⟩
theorem sql_upd {a p : Addr} {xs : List V} {o : HO} (h : H p = none) (q : SqL K H a xs) : SqL K (upd H p o) a xs := by
  rcases q with q | q
  · rcases q with q | ⟨u, q⟩
    · exact .inl (.inl (by rw [upd_ne (ne_of_none q h)]; exact q))
    · exact .inl (.inr ⟨u, by rw [upd_ne (ne_of_none q h)]; exact q⟩)
  · exact .inr q
theorem pair_mono {α : Type} (e : Ext m H m1 H1) : ∀ {xs : List (α × V)} {ys : List (α × Val)}, Paired (fun (p : α × V) (q : α × Val) => p.1 = q.1 ∧ RV K m H p.2 q.2) xs ys → Paired (fun (p : α × V) (q : α × Val) => p.1 = q.1 ∧ RV K m1 H1 p.2 q.2) xs ys
  | _, _, .nil => .nil
  | _, _, .cons h t => .cons ⟨h.1, h.2.mono e⟩ (pair_mono e t)
/-- an object that stands as it stood -/
theorem RO.keep {x : Option Addr} {o : Ob} (e : Ext m H m1 H1) (ha : ∀ a, x = some a → (∀ u, (∀ ps, u ≠ .tbl ps) → H a = some u → H1 a = some u)) (h : RO K m H x o) : RO K m1 H1 x o := by
  cases x with
  | none => cases o <;> exact h
  | some a =>
    have ha := ha a rfl
    cases o with
    | dead => exact True.intro
    | ro ws =>
      obtain ⟨vs, h1, h2⟩ := h
      refine ⟨vs, ?_, RVs.mono e h2⟩
      rcases h1 with h1 | h1
      · rcases h1 with h1 | ⟨u, h1⟩
        · exact .inl (.inl (ha _ (by intro ps z; cases z) h1))
        · exact .inl (.inr ⟨u, ha _ (by intro ps z; cases z) h1⟩)
      · exact .inr h1
    | lst ws =>
      obtain ⟨vs, h1, h2⟩ := h
      exact ⟨vs, ha _ (by intro ps z; cases z) h1, RVs.mono e h2⟩
    | dct kvs =>
      obtain ⟨vs, h1, h2⟩ := h
      exact ⟨vs, ha _ (by intro ps z; cases z) h1, pair_mono e h2⟩
    | ins C fs =>
      obtain ⟨dx, vs, h1, h2⟩ := h
      exact ⟨dx, vs, ha _ (by intro ps z; cases z) h1, pair_mono e h2⟩
theorem TbOk.up {p : Addr} {o : HO} (t : TbOk K m H) (h : ∀ q ∈ TK K, q.1 ≠ p) (hf : ∀ q ∈ TK K, Fr m1 q.1) (hp : ∀ u, H p = some u → ∀ φ, u ≠ .ext φ) : TbOk K m1 (upd H p o) :=
  ⟨fun q hq => by
    obtain ⟨ps, h1, h2, h3⟩ := t.at_ q hq
    refine ⟨ps, by rw [upd_ne (h q hq)]; exact h1, h2, fun pos cv hc => ?_⟩
    obtain ⟨c, e1, e2⟩ := h3 pos cv hc
    refine ⟨c, e1, ?_⟩
    by_cases z : c = p
    · subst z
      exact absurd rfl (hp _ e2 _)
    · rw [upd_ne z]; exact e2, hf, t.one⟩
theorem TbOk.new {p : Addr} {o : HO} (t : TbOk K m H) (h : H p = none) (hf : ∀ q ∈ TK K, Fr m1 q.1) : TbOk K m1 (upd H p o) :=
  t.up (fun q hq z => by
    obtain ⟨ps, h1, _⟩ := t.at_ q hq
    rw [z, h] at h1
    cases h1) hf fun u hu => by rw [h] at hu; cases hu
theorem TbOk.nep {p : Addr} (t : TbOk K m H) (h : H p = none) : ∀ q ∈ TK K, q.1 ≠ p := fun q hq z => by
  obtain ⟨ps, h1, _⟩ := t.at_ q hq
  rw [z, h] at h1
  cases h1
theorem TbOk.same (t : TbOk K m H) (hf : ∀ q ∈ TK K, Fr m1 q.1) : TbOk K m1 H := ⟨t.at_, hf, t.one⟩
theorem Rel.fresh (r : Rel K m H S) {p : Addr} {o : HO} (h : H p = none) : Rel K m (upd H p o) S := by
  refine ⟨r.len, r.inj, fun i x u e1 e2 => ?_, r.dd, fun i a e => ?_, fun a ha => ?_, r.tb.new h r.tb.fr⟩
  · refine (r.ob i x u e1 e2).keep (Ext.new h) fun a ea u nt hu => ?_
    rw [upd_ne (ne_of_none hu h)]
    exact hu
  · obtain ⟨u, q⟩ := r.tr i a e
    exact ⟨u, by rw [upd_ne (ne_of_none q h)]; exact q⟩
  · obtain ⟨⟨u, q⟩, n⟩ := r.out a ha
    exact ⟨⟨u, by rw [upd_ne (ne_of_none q h)]; exact q⟩, n⟩
/-- one more mutable object -/
abbrev Ids.add (m : Ids) (p : Addr) : Ids := ⟨m.l ++ [some p], m.o⟩
theorem Ext.push {p : Addr} {o : HO} (h : H p = none) : Ext m H (m.add p) (upd H p o) := by
  refine ⟨fun a u e n => ⟨fun _ => by rw [upd_ne (ne_of_none e h)]; exact e, fun z => ?_⟩, fun i x e => .inl ?_, ⟨fun _ h => h, fun _ h => .inl h⟩, upd_th⟩
  · rcases List.mem_append.mp z with z | z
    · exact n z
    · have z' : a = p := by simpa using z
      exact ne_of_none e h z'
  · show (m.l ++ [some p])[i]? = some x
    rw [List.getElem?_append_left (List.getElem?_eq_some_iff.mp e).1]
    exact e
theorem Rel.push (r : Rel K m H S) {p : Addr} {o : HO} {ob : Ob} (h : H p = none) (new : RO K (m.add p) (upd H p o) (some p) ob) : Rel K (m.add p) (upd H p o) (S ++ [ob]) := by
  have hn := r.new h
  have at_ : ∀ (i : Nat) (x : Option Addr), (m.l ++ [some p])[i]? = some x → m.l[i]? = some x ∨ (i = m.l.length ∧ x = some p) := fun i x e => by
    rw [List.getElem?_append] at e
    split at e
    · exact .inl e
    · rename_i hi
      have hi' : i - m.l.length = 0 := by
        cases q : i - m.l.length with
        | zero => rfl
        | succ n => rw [q] at e; simp at e
      rw [hi'] at e
      exact .inr ⟨by omega, by simpa using e.symm⟩
  refine ⟨by simp [r.len], fun i j a e1 e2 => ?_, fun i x u e1 e2 => ?_, fun i e => ?_, fun i a e => ?_, fun a ha => ?_, r.tb.new h fun q hq => ⟨fun z => ?_, (r.tb.fr q hq).2⟩⟩
  · rcases at_ i _ e1 with e1 | ⟨e1, q1⟩
    · rcases at_ j _ e2 with e2 | ⟨e2, q2⟩
      · exact r.inj i j a e1 e2
      · cases q2
        exact absurd (List.mem_of_getElem? e1) hn
    · rcases at_ j _ e2 with e2 | ⟨e2, q2⟩
      · cases q1
        exact absurd (List.mem_of_getElem? e2) hn
      · omega
  · rcases at_ i x e1 with e1 | ⟨rfl, rfl⟩
    · have hi : i < S.length := by rw [← r.len]; exact (List.getElem?_eq_some_iff.mp e1).1
      rw [List.getElem?_append_left hi] at e2
      refine (r.ob i x u e1 e2).keep (Ext.push h) fun a ea u nt hu => ?_
      rw [upd_ne (ne_of_none hu h)]
      exact hu
    · rw [List.getElem?_append_right (by have := r.len; omega), r.len, Nat.sub_self] at e2
      have e2' : ob = u := by simpa using e2
      subst e2'
      exact new
  · rcases at_ i _ e with e | ⟨_, q⟩
    · have q := r.dd i e
      rw [List.getElem?_append_left (List.getElem?_eq_some_iff.mp q).1]
      exact q
    · cases q
  · rcases at_ i _ e with e | ⟨_, q⟩
    · obtain ⟨u, q⟩ := r.tr i a e
      exact ⟨u, by rw [upd_ne (ne_of_none q h)]; exact q⟩
    · cases q
      exact ⟨o, upd_same⟩
  · obtain ⟨⟨u, q⟩, n⟩ := r.out a ha
    refine ⟨⟨u, by rw [upd_ne (ne_of_none q h)]; exact q⟩, fun z => ?_⟩
    rcases List.mem_append.mp z with z | z
    · exact n z
    · have z' : a = p := by simpa using z
      exact ne_of_none q h z'
  · rcases List.mem_append.mp z with z | z
    · exact (r.tb.fr q hq).1 z
    · exact r.tb.nep h q hq (by simpa using z)
theorem Ext.set {i : Nat} {a : Addr} {o : HO} (h : m.l[i]? = some (some a)) : Ext m H m (upd H a o) :=
  ⟨fun b u e n => ⟨fun _ => by rw [upd_ne (fun (z : b = a) => n (by rw [z]; exact List.mem_of_getElem? h))]; exact e, n⟩, fun _ _ e => .inl e, ⟨fun _ h => h, fun _ h => .inl h⟩, upd_th⟩
theorem Rel.set (r : Rel K m H S) {i : Nat} {a : Addr} {o : HO} {ob : Ob} (h : m.l[i]? = some (some a)) (new : RO K m (upd H a o) (some a) ob) (hx : ∀ u, H a = some u → ∀ φ, u ≠ .ext φ) : Rel K m (upd H a o) (S.set i ob) := by
  refine ⟨by simp [r.len], r.inj, fun j x u e1 e2 => ?_, fun j e => ?_, fun j b e => ?_, fun b hb => ?_, r.tb.up (fun q hq z => (r.tb.fr q hq).1 (by rw [z]; exact List.mem_of_getElem? h)) r.tb.fr hx⟩
  · by_cases hj : j = i
    · subst hj
      rw [h] at e1
      cases e1
      rw [List.getElem?_set_self (by rw [← r.len]; exact (List.getElem?_eq_some_iff.mp h).1)] at e2
      cases e2
      exact new
    · rw [List.getElem?_set_ne (Ne.symm hj)] at e2
      refine (r.ob j x u e1 e2).keep (Ext.set h) fun b eb u nt hu => ?_
      subst eb
      rw [upd_ne (fun (z : b = a) => hj (r.inj j i b e1 (by rw [z]; exact h)))]
      exact hu
  · by_cases hj : j = i
    · subst hj
      rw [h] at e
      cases e
    · rw [List.getElem?_set_ne (Ne.symm hj)]
      exact r.dd j e
  · by_cases hb : b = a
    · subst hb
      exact ⟨o, upd_same⟩
    · obtain ⟨u, q⟩ := r.tr j b e
      exact ⟨u, by rw [upd_ne hb]; exact q⟩
  · obtain ⟨⟨u, q⟩, n⟩ := r.out b hb
    exact ⟨⟨u, by rw [upd_ne (fun (z : b = a) => n (by rw [z]; exact List.mem_of_getElem? h))]; exact q⟩, n⟩
/-- the object of a number -/
theorem Rel.at_ (r : Rel K m H S) {i : Nat} {o : Ob} (e : S[i]? = some o) : ∃ x, m.l[i]? = some x ∧ RO K m H x o := by
  have hi : i < m.l.length := by rw [r.len]; exact (List.getElem?_eq_some_iff.mp e).1
  exact ⟨m.l[i], List.getElem?_eq_getElem hi, r.ob i _ o (List.getElem?_eq_getElem hi) e⟩
theorem RV.obj {v : V} {i : Nat} {o : Ob} (r : Rel K m H S) (h : RV K m H v (.r i)) (e : S[i]? = some o) (nd : o ≠ .dead) : ∃ a, v = .ref a ∧ m.l[i]? = some (some a) ∧ RO K m H (some a) o := by
  cases h with
  | r h => exact ⟨_, rfl, h, r.ob i _ o h e⟩
  | z h =>
    have q := r.dd i h
    rw [e] at q
    exact absurd (Option.some.inj q) nd
end

/-! ### names and constants -/
section
variable {X : Cx} {pos : Pos}
def wVar (i : Nat) : WE := fun _ en S k => match (en[i]?).join with
  | some w => k w S
  | none => False
def wC (x : PyData) : WE := fun _ _ S k => k (.d x) S
theorem lift_e {e : Expr} {t : TE} {F : WE} (h : PE X e t) (l : ∀ (B : Bs) (W : XQ) (m : Ids) (H : Hp) (S : Sto) (st : L2.St) (en : Env) (k : KE) (Q : VK), Stg X.K B m H S st en → F W en S k → (∀ v H', Post X.K m H k v H' → Q v H') → t st H Q) : DE X e F :=
  ⟨fun B W tk => ⟨fun pins s st H Q I ⟨m, en, S, k, g, f, q⟩ => h.run pins s st H Q I (l B W m H S st en k Q g f q)⟩⟩
theorem join_some {α : Type} {o : Option (Option α)} {w : α} (h : o.join = some w) : o = some (some w) := by
  cases o with
  | none => cases h
  | some o =>
    cases o with
    | none => cases h
    | some o =>
      have h' : o = w := Option.some.inj h
      rw [h']
theorem de_var {i : Nat} {x : Str} (hN : X.N[i]? = some x) (hv : Vis X.env.scope x) (hd : (x == ("__debug__" : Str)) = false := by decide) (hcd : (x == ("__classdict__" : Str)) = false := by decide) : DE X (.Name x pos) (wVar i) :=
  lift_e (pe_var hN hv hd hcd) fun B W m H S st en k Q g f q => by
    unfold wVar at f
    cases e : (en[i]?).join with
    | none =>
      rw [e] at f
      exact f.elim
    | some w =>
      rw [e] at f
      obtain ⟨v, h1, h2⟩ := g.env.at_ i w (join_some e)
      exact ⟨v, h1, q _ _ (Post.here g.rel h2 f)⟩
theorem de_int {i j pos} : DE X (.Constant (.int i) j pos) (wC (.int i)) := lift_e pe_int fun B W m H S st en k Q g f q => q _ _ (Post.here g.rel (.d (.int i)) f)
theorem de_bl {b j pos} : DE X (.Constant (.bool b) j pos) (wC (.bool b)) := lift_e pe_bl fun B W m H S st en k Q g f q => q _ _ (Post.here g.rel (.d (.bl b)) f)
theorem de_non {j pos} : DE X (.Constant .none j pos) (wC .none) := lift_e pe_non fun B W m H S st en k Q g f q => q _ _ (Post.here g.rel (.d .non) f)
theorem de_str {x j pos} : DE X (.Constant (.str x) j pos) (wC (.str x)) := lift_e pe_str fun B W m H S st en k Q g f q => q _ _ (Post.here g.rel (.d (.str x)) f)
/-- a constant of the module -/
def GC (K : PySem.W.Frag) (u : Value) (x : PyData) : Prop := ∃ v, RelV v u ∧ ∀ m H, RD K m H v x
theorem gc_int {K : PySem.W.Frag} {i : Int} {t : Tok} : GC K (.int i t) (.int i) := ⟨.int i, ⟨t, rfl⟩, fun _ _ => .int i⟩
theorem gc_str {K : PySem.W.Frag} {i : Str} {t : Tok} : GC K (.str i t) (.str i) := ⟨.str i, ⟨t, rfl⟩, fun _ _ => .str i⟩
theorem de_glob {x : Str} {u : Value} {d : PyData} (hg : Gl X x) (hm : X.mg x = some u) (r : GC X.K u d) (hd : (x == ("__debug__" : Str)) = false := by decide) : DE X (.Name x pos) (wC d) := by
  obtain ⟨v, r1, r2⟩ := r
  exact lift_e (pe_glob hg hm r1 hd) fun B W m H S st en k Q g f q => q _ _ (Post.here g.rel (.d (r2 m H)) f)
end

/-! ### operators -/
abbrev R2D := Val → Val → Sto → KE → Prop
def OpD (X : Cx) (f : Value → Value → Sem Value) (r : R2D) : Prop :=
  ∀ (pins : List (Addr × Obj)) (s : Shared) (st : L2.St) (H : Hp) (x y : V) (v u : Value) (Q : VK) (m : Ids) (S : Sto) (wx wy : Val) (k : KE), Inv X pins st H s → Rel X.K m H S → RV X.K m H x wx → RV X.K m H y wy → RelV x v → RelV y u → r wx wy S k → (∀ v H', Post X.K m H k v H' → Q v H') →
    wpAny (model X.prog X.w) X.A (f v u) (EP X pins st Q) X.xe s
def Lift2 (K : PySem.W.Frag) (r2 : R2) (r : R2D) : Prop := ∀ (H : Hp) (x y : V) (Q : VK) (m : Ids) (S : Sto) (wx wy : Val) (k : KE), Rel K m H S → RV K m H x wx → RV K m H y wy → r wx wy S k → (∀ v H', Post K m H k v H' → Q v H') → r2 x y H Q
section
variable {X : Cx} {pos : Pos} {a b c : Expr} {Fa Fb Fc : WE}
theorem OpD.of {f : Value → Value → Sem Value} {r2 : R2} {r : R2D} (h : OpR X f r2) (l : Lift2 X.K r2 r) : OpD X f r :=
  fun pins s st H x y v u Q m S wx wy k I R vx vy rx ry hr q => h pins s st H x y v u Q I rx ry (l H x y Q m S wx wy k R vx vy hr q)
def wOp (r : R2D) (Fa Fb : WE) : WE := fun W en S k => Fa W en S fun x S1 => Fb W en S1 fun y S2 => r x y S2 k
theorem two {B : Bs} {W : XQ} (ha : PE X a (lE X.K B Fa W)) (hb : PE X b (lE X.K B Fb W)) {pins : List (Addr × Obj)} {s : Shared} {st : L2.St} {H : Hp} {m : Ids} {S : Sto} {en : Env} {r : Val → Val → Sto → Prop} (I : Inv X pins st H s) (g : Stg X.K B m H S st en)
    (h : Fa W en S fun x S1 => Fb W en S1 fun y S2 => r x y S2) {α : Type} {Q : α → Shared → Prop} {f : Value → Value → Sem α}
    (hf : ∀ v u s2 x y H2 m2 S2 wx wy, Inv X pins st H2 s2 → Ext m H m2 H2 → Stg X.K B m2 H2 S2 st en → RV X.K m2 H2 x wx → RV X.K m2 H2 y wy → RelV x v → RelV y u → r wx wy S2 → wpAny (model X.prog X.w) X.A (f v u) Q X.xe s2) :
    wpAny (model X.prog X.w) X.A (eval a X.env) (fun v s₁ => wpAny (model X.prog X.w) X.A (eval b X.env) (fun u s₂ => wpAny (model X.prog X.w) X.A (f v u) Q X.xe s₂) X.xe s₁) X.xe s := by
  refine bin ha hb (R := fun x y H2 => ∃ m2 S2 wx wy, Ext m H m2 H2 ∧ Stg X.K B m2 H2 S2 st en ∧ RV X.K m2 H2 x wx ∧ RV X.K m2 H2 y wy ∧ r wx wy S2) I ?_ fun v u s2 x y H2 I2 rx ry q => ?_
  · refine ⟨m, en, S, _, g, h, fun x H1 p1 => ?_⟩
    obtain ⟨m1, S1, w1, e1, r1, v1, h1⟩ := p1
    refine ⟨m1, en, S1, _, g.next e1 r1, h1, fun y H2 p2 => ?_⟩
    obtain ⟨m2, S2, w2, e2, r2, v2, h2⟩ := p2
    exact ⟨m2, S2, w1, w2, e1.trans e2, (g.next e1 r1).next e2 r2, v1.mono e2, v2, h2⟩
  · obtain ⟨m2, S2, wx, wy, e, g2, vx, vy, h2⟩ := q
    exact hf v u s2 x y H2 m2 S2 wx wy I2 e g2 vx vy rx ry h2
theorem de_bin {op : Operator} {r : R2D} (ho : OpD X (binaryOp op) r) (ha : DE X a Fa) (hb : DE X b Fb) : DE X (.BinOp a op b pos) (wOp r Fa Fb) := by
  refine ⟨fun B W tk => ⟨fun pins s st H Q I h => ?_⟩⟩
  obtain ⟨m, en, S, k, g, f, q⟩ := h
  exact wpAny_BinOp (two (ha.go B W tk) (hb.go B W tk) (r := fun x y S2 => r x y S2 k) I g f fun v u s2 x y H2 m2 S2 wx wy I2 e g2 vx vy rx ry h2 =>
    ho pins s2 st H2 x y v u Q m2 S2 wx wy k I2 g2.rel vx vy rx ry h2 fun v' H' p => q v' H' (p.tr e))
theorem de_cmp {op : CmpOp} {r : R2D} (ho : OpD X (compareOp op) r) (ha : DE X a Fa) (hb : DE X b Fb) (h1 : behindInMarks op b = false) : DE X (.Compare a [op] [b] pos) (wOp r Fa Fb) := by
  refine ⟨fun B W tk => ⟨fun pins s st H Q I h => ?_⟩⟩
  obtain ⟨m, en, S, k, g, f, q⟩ := h
  exact wpAny_Compare1 (two (ha.go B W tk) (hb.go B W tk) (r := fun x y S2 => r x y S2 k) I g f fun v u s2 x y H2 m2 S2 wx wy I2 e g2 vx vy rx ry h2 =>
    ho pins s2 st H2 x y v u Q m2 S2 wx wy k I2 g2.rel vx vy rx ry h2 fun v' H' p => q v' H' (p.tr e)) h1
/-- a bool as a test -/
def kB (k : KB) : KE := fun w S => match w with
  | .d (.bool b) => k b S
  | _ => False
theorem dt_cmp {op : CmpOp} {r : R2D} (ho : OpD X (compareOp op) r) (ha : DE X a Fa) (hb : DE X b Fb) (h1 : behindInMarks op b = false) : DT X (.Compare a [op] [b] pos) (fun W en S k => wOp r Fa Fb W en S (kB k)) := by
  refine ⟨fun B W tk => ⟨fun pins s st H Q I h => ?_⟩⟩
  obtain ⟨m, en, S, k, g, f, q⟩ := h
  refine wpAny_isTrue_Compare1 (two (ha.go B W tk) (hb.go B W tk) (r := fun x y S2 => r x y S2 (kB k)) I g f fun v u s2 x y H2 m2 S2 wx wy I2 e g2 vx vy rx ry h2 =>
    thn (ho pins s2 st H2 x y v u (Post X.K m2 H2 (kB k)) m2 S2 wx wy (kB k) I2 g2.rel vx vy rx ry h2 fun v' H' p => p) fun c s3 hc => ?_) h1
  obtain ⟨x', H3, I3, r3, m3, S3, w3, e3, R3, v3, k3⟩ := hc
  cases v3 with
  | r _ => exact k3.elim
  | z _ => exact k3.elim
  | s _ _ => exact k3.elim
  | d hd =>
    cases hd with
    | bl d =>
      cases r3
      exact wpAny_truthy_bool ⟨H3, I3, q _ _ ⟨m3, S3, e.trans e3, R3, k3⟩⟩
    | _ => exact k3.elim
end
end DL

set_option Elab.async false
set_option linter.all false
set_option maxRecDepth 100000
set_option maxHeartbeats 4000000
/-! DL3: arguments, operators, items, slices, displays, tests. -/
namespace DL
open PySem PySem.Spec PyProof.Rows L2

/-! ### what stands in a list or tuple -/
def dats : List Val → Option (List PyData)
  | [] => some []
  | .d x :: r => match dats r with
    | some xs => some (x :: xs)
    | none => none
  | .r _ :: _ => none
  | .s _ :: _ => none
@[simp] theorem dats_map : ∀ xs : List PyData, dats (xs.map Val.d) = some xs
  | [] => rfl
  | x :: xs => by simp [dats, dats_map xs]
theorem dats_eq : ∀ {vs : List Val} {xs : List PyData}, dats vs = some xs → vs = xs.map Val.d
  | [], _, h => by
    cases h
    rfl
  | .d x :: r, _, h => by
    unfold dats at h
    cases e : dats r with
    | none => rw [e] at h; cases h
    | some ys =>
      rw [e] at h
      cases h
      rw [dats_eq e]
      rfl
  | .r _ :: _, _, h => by cases h
  | .s _ :: _, _, h => by cases h
/-- a list that may be written -/
def lstW (S : Sto) : Val → Option (List Val)
  | .d (.list xs) => some (xs.map Val.d)
  | .r i => match S[i]? with
    | some (.lst xs) => some xs
    | _ => none
  | _ => none
/-- a list that is read -/
def lsrW (S : Sto) : Val → Option (List Val)
  | .d (.list xs) => some (xs.map Val.d)
  | .s xs => some (xs.map Val.d)
  | .r i => match S[i]? with
    | some (.lst xs) => some xs
    | some (.ro xs) => some xs
    | _ => none
  | _ => none
/-- a list or tuple that is read -/
def seqW (S : Sto) : Val → Option (List Val)
  | .d (.list xs) => some (xs.map Val.d)
  | .d (.tuple xs) => some (xs.map Val.d)
  | .s xs => some (xs.map Val.d)
  | .r i => match S[i]? with
    | some (.lst xs) => some xs
    | some (.ro xs) => some xs
    | _ => none
  | _ => none
section
variable {K : PySem.W.Frag} {m : Ids} {H : Hp} {S : Sto} {x : V} {w : Val}
theorem lstW_rel {ws : List Val} (r : Rel K m H S) (h : RV K m H x w) (e : lstW S w = some ws) : ∃ a vs, x = .ref a ∧ H a = some (.lst vs) ∧ RVs K m H vs ws := by
  cases w with
  | d d =>
    cases h with
    | d h =>
      cases h with
      | lst h1 h2 h3 =>
        cases e
        exact ⟨_, _, rfl, h1, h3.vals⟩
      | _ => cases e
  | s xs => cases e
  | r i =>
    unfold lstW at e
    simp only at e
    cases q : S[i]? with
    | none => rw [q] at e; cases e
    | some o =>
      rw [q] at e
      cases o with
      | lst xs =>
        cases e
        obtain ⟨a, rfl, _, vs, h1, h2⟩ := h.obj r q (by intro z; cases z)
        exact ⟨a, vs, rfl, h1, h2⟩
      | _ => cases e
theorem lsrW_rel {ws : List Val} (r : Rel K m H S) (h : RV K m H x w) (e : lsrW S w = some ws) : ∃ a vs, x = .ref a ∧ SqL K H a vs ∧ RVs K m H vs ws := by
  cases w with
  | d d =>
    cases h with
    | d h =>
      cases h with
      | lst h1 h2 h3 =>
        cases e
        exact ⟨_, _, rfl, SqL.of h1, h3.vals⟩
      | _ => cases e
  | s xs =>
    cases e
    cases h with
    | s h1 h2 => exact ⟨_, _, rfl, sqL_of h1, h2.vals⟩
  | r i =>
    unfold lsrW at e
    simp only at e
    cases q : S[i]? with
    | none => rw [q] at e; cases e
    | some o =>
      rw [q] at e
      cases o with
      | lst xs =>
        cases e
        obtain ⟨a, rfl, _, vs, h1, h2⟩ := h.obj r q (by intro z; cases z)
        exact ⟨a, vs, rfl, SqL.of h1, h2⟩
      | ro xs =>
        cases e
        obtain ⟨a, rfl, _, vs, h1, h2⟩ := h.obj r q (by intro z; cases z)
        exact ⟨a, vs, rfl, h1, h2⟩
      | _ => cases e
theorem RD.tup_inv {xs : List PyData} (h : RD K m H x (.tuple xs)) : ∃ a vs, x = .ref a ∧ SqT K H a vs ∧ RDs K m H vs xs := by
  cases h with
  | tup h1 h2 => exact ⟨_, _, rfl, sqT_of h1, h2⟩
theorem seqW_rel {ws : List Val} (r : Rel K m H S) (h : RV K m H x w) (e : seqW S w = some ws) : ∃ a vs, x = .ref a ∧ (SqL K H a vs ∨ SqT K H a vs) ∧ RVs K m H vs ws := by
  by_cases q : lsrW S w = some ws
  · obtain ⟨a, vs, h1, h2, h3⟩ := lsrW_rel r h q
    exact ⟨a, vs, h1, .inl h2, h3⟩
  · cases w with
    | d d =>
      cases d with
      | tuple xs =>
        cases e
        cases h with
        | d h =>
          obtain ⟨a, vs, h1, h2, h3⟩ := h.tup_inv
          exact ⟨a, vs, h1, .inr h2, h3.vals⟩
      | list xs => exact absurd e q
      | _ => cases e
    | r i => exact absurd e q
    | s xs => exact absurd e q
theorem RVs.get {vs : List V} {ws : List Val} : RVs K m H vs ws → ∀ {i : Nat} {w : Val}, ws[i]? = some w → ∃ v, vs[i]? = some v ∧ RV K m H v w
  | .nil, _, _, e => by simp at e
  | .cons h _, 0, _, e => by
    simp at e
    subst e
    exact ⟨_, rfl, h⟩
  | .cons _ t, i + 1, w, e => by
    obtain ⟨v, h1, h2⟩ := RVs.get t (i := i) (w := w) (by simpa using e)
    exact ⟨v, by simpa using h1, h2⟩
theorem RVs.get' {vs : List V} {ws : List Val} : RVs K m H vs ws → ∀ {i : Nat} {v : V}, vs[i]? = some v → ∃ w, ws[i]? = some w ∧ RV K m H v w
  | .nil, _, _, e => by simp at e
  | .cons h _, 0, _, e => by
    simp at e
    subst e
    exact ⟨_, rfl, h⟩
  | .cons _ t, i + 1, w, e => by
    obtain ⟨v, h1, h2⟩ := RVs.get' t (i := i) (v := w) (by simpa using e)
    exact ⟨v, by simpa using h1, h2⟩
theorem RVs.length {vs : List V} {ws : List Val} (h : RVs K m H vs ws) : vs.length = ws.length := Paired.length h
theorem RVs.append : ∀ {vs us : List V} {ws ys : List Val}, RVs K m H vs ws → RVs K m H us ys → RVs K m H (vs ++ us) (ws ++ ys)
  | _, _, _, _, .nil, h => h
  | _, _, _, _, .cons h t, h' => .cons h (RVs.append t h')
theorem RVs.take : ∀ {vs : List V} {xs : List Val} (n : Nat), RVs K m H vs xs → RVs K m H (vs.take n) (xs.take n)
  | _, _, 0, _ => .nil
  | _, _, _ + 1, .nil => .nil
  | _, _, n + 1, .cons h t => .cons h (RVs.take n t)
theorem RVs.drop : ∀ {vs : List V} {xs : List Val} (n : Nat), RVs K m H vs xs → RVs K m H (vs.drop n) (xs.drop n)
  | _, _, 0, h => h
  | _, _, _ + 1, .nil => .nil
  | _, _, n + 1, .cons _ t => RVs.drop n t
theorem RVs.set {x : V} {w : Val} (r : RV K m H x w) : ∀ {vs : List V} {ws : List Val} (i : Nat), RVs K m H vs ws → RVs K m H (vs.set i x) (ws.set i w)
  | _, _, _, .nil => .nil
  | _, _, 0, .cons _ t => .cons r t
  | _, _, i + 1, .cons q t => .cons q (RVs.set r i t)
theorem RVs.reverse {vs : List V} {xs : List Val} (h : RVs K m H vs xs) : RVs K m H vs.reverse xs.reverse := by
  induction vs generalizing xs with
  | nil =>
    cases h
    exact .nil
  | cons v vs ih =>
    cases h with
    | cons h t =>
      rw [List.reverse_cons, List.reverse_cons]
      exact (ih t).append (.cons h .nil)
theorem RVs.erase : ∀ {vs : List V} {ws : List Val} (i : Nat), RVs K m H vs ws → RVs K m H (vs.eraseIdx i) (ws.eraseIdx i)
  | _, _, _, .nil => .nil
  | _, _, 0, .cons _ t => t
  | _, _, i + 1, .cons q t => .cons q (RVs.erase i t)
theorem RVs.dropLast : ∀ {vs : List V} {ws : List Val}, RVs K m H vs ws → RVs K m H vs.dropLast ws.dropLast := fun {vs ws} h => by
  rw [List.dropLast_eq_take, List.dropLast_eq_take, h.length]
  exact h.take _
theorem RVs.ints : ∀ {vs : List V} {ns : List Int}, RVs K m H vs (ns.map fun i => Val.d (.int i)) → vs = ns.map V.int
  | _, [], .nil => rfl
  | _, _ :: _, .cons (.d (.int i)) t => congrArg (V.int i :: ·) (RVs.ints t)
theorem RVs.bls : ∀ {vs : List V} {ns : List Bool}, RVs K m H vs (ns.map fun i => Val.d (.bool i)) → vs = ns.map V.bl
  | _, [], .nil => rfl
  | _, _ :: _, .cons (.d (.bl i)) t => congrArg (V.bl i :: ·) (RVs.bls t)
theorem RVs.strs : ∀ {vs : List V} {ns : List Str}, RVs K m H vs (ns.map fun i => Val.d (.str i)) → vs = ns.map V.str
  | _, [], .nil => rfl
  | _, _ :: _, .cons (.d (.str i)) t => congrArg (V.str i :: ·) (RVs.strs t)
/-- a new tuple, a new list of data, a new list by its number -/
theorem post_tup {vs : List V} {xs : List PyData} {k : KE} {Q : VK} (r : Rel K m H S) (h : RDs K m H vs xs) (hk : k (.d (.tuple xs)) S) (q : ∀ v H', Post K m H k v H' → Q v H') (p : Addr) (hp : H p = none) : Q (.ref p) (upd H p (.tup vs)) :=
  q _ _ ⟨m, S, _, Ext.new hp, r.fresh hp, .d (.tup (.inl ⟨.inl upd_same, r.newF hp⟩) (RDs.mono (Ext.new hp) h)), hk⟩
theorem post_lst {vs : List V} {xs : List PyData} {k : KE} {Q : VK} (r : Rel K m H S) (h : RDs K m H vs xs) (hk : k (.d (.list xs)) S) (q : ∀ v H', Post K m H k v H' → Q v H') (p : Addr) (hp : H p = none) : Q (.ref p) (upd H p (.lst vs)) :=
  q _ _ ⟨m, S, _, Ext.new hp, r.fresh hp, .d (.lst upd_same (r.newF hp) (RDs.mono (Ext.new hp) h)), hk⟩
theorem post_new {vs : List V} {ws : List Val} {k : KE} {Q : VK} (r : Rel K m H S) (h : RVs K m H vs ws) (hk : k (.r S.length) (S ++ [.lst ws])) (q : ∀ v H', Post K m H k v H' → Q v H') (p : Addr) (hp : H p = none) : Q (.ref p) (upd H p (.lst vs)) := by
  have hro : RO K (m.add p) (upd H p (.lst vs)) (some p) (.lst ws) := ⟨vs, upd_same, RVs.mono (Ext.push hp) h⟩
  refine q _ _ ⟨m.add p, S ++ [.lst ws], _, Ext.push hp, r.push hp hro, .r ?_, hk⟩
  show (m.l ++ [some p])[S.length]? = some (some p)
  rw [← r.len]
  simp
end

/-! ### arguments -/
section
variable {X : Cx} {e : Expr} {es : List Expr} {F : WE} {G : WA}
def wNil : WA := fun _ _ S k => k [] S
def wCons (F : WE) (G : WA) : WA := fun W en S k => F W en S fun x S1 => G W en S1 fun xs S2 => k (x :: xs) S2
theorem da_nil : DA X [] wNil := ⟨fun B W tk => ⟨fun pos pins s st H Q I ⟨m, en, S, k, g, f, q⟩ => (pa_nil (X := X)).run pos pins s st H Q I (q _ _ ⟨m, S, [], Ext.refl, g.rel, .nil, f⟩)⟩⟩
theorem da_cons (ha : DE X e F) (hr : DA X es G) (hs : starEach (e :: es) X.env = (false, eval e X.env) :: starEach es X.env := by rfl) : DA X (e :: es) (wCons F G) := by
  refine ⟨fun B W tk => ⟨fun pos pins s st H Q I ⟨m, en, S, k, g, f, q⟩ => (pa_cons (ha.go B W tk) (hr.go B W tk) hs).run pos pins s st H Q I ?_⟩⟩
  refine ⟨m, en, S, _, g, f, fun x H1 p1 => ?_⟩
  obtain ⟨m1, S1, w1, e1, r1, v1, h1⟩ := p1
  refine ⟨m1, en, S1, _, g.next e1 r1, h1, fun xs H2 p2 => ?_⟩
  obtain ⟨m2, S2, w2, e2, r2, v2, h2⟩ := p2
  exact q _ _ ⟨m2, S2, w1 :: w2, e1.trans e2, r2, .cons (v1.mono e2) v2, h2⟩
end

/-! ### lifting the layer's forms -/
abbrev R1D := Val → Sto → KE → Prop
abbrev RCD := List Val → Sto → KE → Prop
abbrev RMD := Val → List Val → Sto → KE → Prop
def LiftC (K : PySem.W.Frag) (r2 : List V → Hp → VK → Prop) (r : RCD) : Prop := ∀ (H : Hp) (xs : List V) (Q : VK) (m : Ids) (S : Sto) (ws : List Val) (k : KE), Rel K m H S → RVs K m H xs ws → r ws S k → (∀ v H', Post K m H k v H' → Q v H') → r2 xs H Q
def Lift1 (K : PySem.W.Frag) (r2 : V → Hp → VK → Prop) (r : R1D) : Prop := ∀ (H : Hp) (x : V) (Q : VK) (m : Ids) (S : Sto) (w : Val) (k : KE), Rel K m H S → RV K m H x w → r w S k → (∀ v H', Post K m H k v H' → Q v H') → r2 x H Q
def LiftM (K : PySem.W.Frag) (r2 : V → List V → Hp → VK → Prop) (r : RMD) : Prop := ∀ (H : Hp) (x : V) (xs : List V) (Q : VK) (m : Ids) (S : Sto) (w : Val) (ws : List Val) (k : KE), Rel K m H S → RV K m H x w → RVs K m H xs ws → r w ws S k → (∀ v H', Post K m H k v H' → Q v H') → r2 x xs H Q
section
variable {X : Cx} {pos : Pos} {a b e : Expr} {es : List Expr} {Fa Fb F : WE} {G : WA}
theorem tOp_of {K : PySem.W.Frag} {B : Bs} {W : XQ} {r2 : R2} {r : R2D} (l : Lift2 K r2 r) {st : L2.St} {H : Hp} {Q : VK} (h : lE K B (wOp r Fa Fb) W st H Q) : tOp r2 (lE K B Fa W) (lE K B Fb W) st H Q := by
  obtain ⟨m, en, S, k, g, f, q⟩ := h
  refine ⟨m, en, S, _, g, f, fun x H1 p1 => ?_⟩
  obtain ⟨m1, S1, w1, e1, r1, v1, h1⟩ := p1
  refine ⟨m1, en, S1, _, g.next e1 r1, h1, fun y H2 p2 => ?_⟩
  obtain ⟨m2, S2, w2, e2, r2', v2, h2⟩ := p2
  exact l H2 x y Q m2 S2 w1 w2 k r2' (v1.mono e2) v2 h2 fun v H' p => q v H' (p.tr (e1.trans e2))
theorem de_tOp {r2 : R2} {r : R2D} (h : ∀ ta tb, PE X a ta → PE X b tb → PE X e (tOp r2 ta tb)) (l : Lift2 X.K r2 r) (ha : DE X a Fa) (hb : DE X b Fb) : DE X e (wOp r Fa Fb) :=
  ⟨fun B W tk => ⟨fun pins s st H Q I h' => (h _ _ (ha.go B W tk) (hb.go B W tk)).run pins s st H Q I (tOp_of l h')⟩⟩
def wUn (r : R1D) (F : WE) : WE := fun W en S k => F W en S fun x S1 => r x S1 k
theorem tUn_of {K : PySem.W.Frag} {B : Bs} {W : XQ} {r2 : V → Hp → VK → Prop} {r : R1D} (l : Lift1 K r2 r) {st : L2.St} {H : Hp} {Q : VK} (h : lE K B (wUn r F) W st H Q) : tUn r2 (lE K B F W) st H Q := by
  obtain ⟨m, en, S, k, g, f, q⟩ := h
  refine ⟨m, en, S, _, g, f, fun x H1 p1 => ?_⟩
  obtain ⟨m1, S1, w1, e1, r1, v1, h1⟩ := p1
  exact l H1 x Q m1 S1 w1 k r1 v1 h1 fun v H' p => q v H' (p.tr e1)
theorem de_tUn {r2 : V → Hp → VK → Prop} {r : R1D} (h : ∀ ta, PE X a ta → PE X e (tUn r2 ta)) (l : Lift1 X.K r2 r) (ha : DE X a F) : DE X e (wUn r F) :=
  ⟨fun B W tk => ⟨fun pins s st H Q I h' => (h _ (ha.go B W tk)).run pins s st H Q I (tUn_of l h')⟩⟩
def wCB (r : RCD) (G : WA) : WE := fun W en S k => G W en S fun ws S1 => r ws S1 k
theorem tCB_of {K : PySem.W.Frag} {B : Bs} {W : XQ} {r2 : List V → Hp → VK → Prop} {r : RCD} (l : LiftC K r2 r) {st : L2.St} {H : Hp} {Q : VK} (h : lE K B (wCB r G) W st H Q) : tCB r2 (lA K B G W) st H Q := by
  obtain ⟨m, en, S, k, g, f, q⟩ := h
  refine ⟨m, en, S, _, g, f, fun x H1 p1 => ?_⟩
  obtain ⟨m1, S1, w1, e1, r1, v1, h1⟩ := p1
  exact l H1 x Q m1 S1 w1 k r1 v1 h1 fun v H' p => q v H' (p.tr e1)
theorem de_tCB {r2 : List V → Hp → VK → Prop} {r : RCD} (h : ∀ t, PA X es t → PE X e (tCB r2 t)) (l : LiftC X.K r2 r) (ha : DA X es G) : DE X e (wCB r G) :=
  ⟨fun B W tk => ⟨fun pins s st H Q I h' => (h _ (ha.go B W tk)).run pins s st H Q I (tCB_of l h')⟩⟩
/-- what a receiver must be, by its type's name -/
def okT (T : String) (S : Sto) (w : Val) : Prop := match w with
  | .d (.str _) => T = "str"
  | .d (.list _) => T = "list"
  | .s _ => T = "list"
  | .r i => match S[i]? with
    | some (.lst _) => T = "list"
    | some (.ro _) => T = "list"
    | some (.dct _) => T = "dict"
    | _ => False
  | _ => False
theorem okT_ty {K : PySem.W.Frag} {m : Ids} {H : Hp} {S : Sto} {T : String} {x : V} {w : Val} (r : Rel K m H S) (h : RV K m H x w) (o : okT T S w) : tyV K T x H := by
  cases w with
  | d d =>
    cases h with
    | d h =>
      cases h with
      | str z => exact o
      | lst h1 h2 h3 => exact .inl ⟨o, _, SqL.of h1⟩
      | _ => exact o.elim
  | s xs =>
    cases h with
    | s h1 h2 => exact .inl ⟨o, _, sqL_of h1⟩
  | r i =>
    unfold okT at o
    simp only at o
    cases q : S[i]? with
    | none => rw [q] at o; exact o.elim
    | some ob =>
      rw [q] at o
      cases ob with
      | lst xs =>
        obtain ⟨a, rfl, _, vs, h1, h2⟩ := h.obj r q (by intro z; cases z)
        exact .inl ⟨o, vs, SqL.of h1⟩
      | ro xs =>
        obtain ⟨a, rfl, _, vs, h1, h2⟩ := h.obj r q (by intro z; cases z)
        exact .inl ⟨o, vs, h1⟩
      | dct kvs =>
        obtain ⟨a, rfl, _, vs, h1, h2⟩ := h.obj r q (by intro z; cases z)
        exact .inr (.inr (.inl ⟨o, .inl ⟨vs, h1⟩⟩))
      | _ => exact o.elim
def wBM (T : String) (r : RMD) (F : WE) (G : WA) : WE := fun W en S k => F W en S fun x S1 => okT T S1 x ∧ G W en S1 fun ws S2 => r x ws S2 k
theorem tBM_of {K : PySem.W.Frag} {B : Bs} {W : XQ} {T : String} {r2 : V → List V → Hp → VK → Prop} {r : RMD} (l : LiftM K r2 r) {st : L2.St} {H : Hp} {Q : VK} (h : lE K B (wBM T r F G) W st H Q) : tBM K T r2 (lE K B F W) (lA K B G W) st H Q := by
  obtain ⟨m, en, S, k, g, f, q⟩ := h
  refine ⟨m, en, S, _, g, f, fun x H1 p1 => ?_⟩
  obtain ⟨m1, S1, w1, e1, r1, v1, h1⟩ := p1
  refine ⟨okT_ty r1 v1 h1.1, m1, en, S1, _, g.next e1 r1, h1.2, fun y H2 p2 => ?_⟩
  obtain ⟨m2, S2, w2, e2, r2', v2, h2⟩ := p2
  exact l H2 x y Q m2 S2 w1 w2 k r2' (v1.mono e2) v2 h2 fun v H' p => q v H' (p.tr (e1.trans e2))
theorem de_tBM {T : String} {r2 : V → List V → Hp → VK → Prop} {r : RMD} (h : ∀ ta t, PE X a ta → PA X es t → PE X e (tBM X.K T r2 ta t)) (l : LiftM X.K r2 r) (ha : DE X a F) (hs : DA X es G) : DE X e (wBM T r F G) :=
  ⟨fun B W tk => ⟨fun pins s st H Q I h' => (h _ _ (ha.go B W tk) (hs.go B W tk)).run pins s st H Q I (tBM_of l h')⟩⟩
theorem tBM0_of {K : PySem.W.Frag} {B : Bs} {W : XQ} {T : String} {r2 : V → List V → Hp → VK → Prop} {r : RMD} (l : LiftM K r2 r) {st : L2.St} {H : Hp} {Q : VK} (h : lE K B (wBM T r F wNil) W st H Q) : tBM0 K T r2 (lE K B F W) st H Q := by
  obtain ⟨m, en, S, k, g, f, q⟩ := h
  refine ⟨m, en, S, _, g, f, fun x H1 p1 => ?_⟩
  obtain ⟨m1, S1, w1, e1, r1, v1, h1⟩ := p1
  exact ⟨okT_ty r1 v1 h1.1, l H1 x [] Q m1 S1 w1 [] k r1 v1 .nil h1.2 fun v H' p => q v H' (p.tr e1)⟩
theorem de_tBM0 {T : String} {r2 : V → List V → Hp → VK → Prop} {r : RMD} (h : ∀ ta, PE X a ta → PE X e (tBM0 X.K T r2 ta)) (l : LiftM X.K r2 r) (ha : DE X a F) : DE X e (wBM T r F wNil) :=
  ⟨fun B W tk => ⟨fun pins s st H Q I h' => (h _ (ha.go B W tk)).run pins s st H Q I (tBM0_of l h')⟩⟩
/-! displays -/
def wTup (G : WA) : WE := fun W en S k => G W en S fun ws S1 => ws.length ≤ 1000000 ∧ match dats ws with
  | some xs => k (.d (.tuple xs)) S1
  | none => False
def wLst (G : WA) : WE := fun W en S k => G W en S fun ws S1 => ws.length ≤ 1000000 ∧ match dats ws with
  | some xs => k (.d (.list xs)) S1
  | none => False
def wLstM (G : WA) : WE := fun W en S k => G W en S fun ws S1 => ws.length ≤ 1000000 ∧ k (.r S1.length) (S1 ++ [.lst ws])
theorem line6 {n : Nat} (h : n ≤ 1000000) : n ≤ sizeLine := by rw [sizeLine_eq]; omega
theorem line6' {n : Nat} (h : n < 1000000) : n < sizeLine := by rw [sizeLine_eq]; omega
theorem dats_rel {K : PySem.W.Frag} {m : Ids} {H : Hp} {vs : List V} {ws : List Val} {xs : List PyData} (h : RVs K m H vs ws) (e : dats ws = some xs) : RDs K m H vs xs := by
  rw [dats_eq e] at h
  exact RDs.of_vals h
theorem de_tup {x1} (h : DA X es G) : DE X (.Tuple es x1 pos) (wTup G) := by
  refine ⟨fun B W tk => ⟨fun pins s st H Q I ⟨m, en, S, k, g, f, q⟩ => (pe_tup (h.go B W tk)).run pins s st H Q I ⟨m, en, S, _, g, f, fun xs H1 p1 => ?_⟩⟩⟩
  obtain ⟨m1, S1, w1, e1, r1, v1, h1, h2⟩ := p1
  refine ⟨by rw [v1.length]; exact line6 h1, ?_⟩
  cases ed : dats w1 with
  | none =>
    rw [ed] at h2
    exact h2.elim
  | some ds =>
    rw [ed] at h2
    exact post_tup r1 (dats_rel v1 ed) h2 fun v H' p => q v H' (p.tr e1)
theorem de_lst (h : DA X es G) : DE X (.List es pos) (wLst G) := by
  refine ⟨fun B W tk => ⟨fun pins s st H Q I ⟨m, en, S, k, g, f, q⟩ => (pe_lst (h.go B W tk)).run pins s st H Q I ⟨m, en, S, _, g, f, fun xs H1 p1 => ?_⟩⟩⟩
  obtain ⟨m1, S1, w1, e1, r1, v1, h1, h2⟩ := p1
  refine ⟨by rw [v1.length]; exact line6 h1, ?_⟩
  cases ed : dats w1 with
  | none =>
    rw [ed] at h2
    exact h2.elim
  | some ds =>
    rw [ed] at h2
    exact post_lst r1 (dats_rel v1 ed) h2 fun v H' p => q v H' (p.tr e1)
theorem de_lstM (h : DA X es G) : DE X (.List es pos) (wLstM G) := by
  refine ⟨fun B W tk => ⟨fun pins s st H Q I ⟨m, en, S, k, g, f, q⟩ => (pe_lst (h.go B W tk)).run pins s st H Q I ⟨m, en, S, _, g, f, fun xs H1 p1 => ?_⟩⟩⟩
  obtain ⟨m1, S1, w1, e1, r1, v1, h1, h2⟩ := p1
  exact ⟨by rw [v1.length]; exact line6 h1, post_new r1 v1 h2 fun v H' p => q v H' (p.tr e1)⟩
end

/-! ### tests -/
section
variable {X : Cx} {pos : Pos} {a b c : Expr} {rest : List Expr} {Fa Fb F : WE} {Ta Tb Tc : WT}
def vTru (S : Sto) (w : Val) (k : Bool → Prop) : Prop := match w with
  | .d .none => k false
  | .d (.bool b) => k b
  | .d (.int i) => k (i != 0)
  | .d (.str x) => x.length ≤ 1000000 ∧ k ((x.length : Int) != 0)
  | .d (.list xs) => k (!xs.isEmpty)
  | .d (.tuple xs) => k (!xs.isEmpty)
  | .s xs => k (!xs.isEmpty)
  | .r i => match S[i]? with
    | some (.lst xs) => k (!xs.isEmpty)
    | some (.ro xs) => k (!xs.isEmpty)
    | some (.dct kvs) => k (!kvs.isEmpty)
    | _ => False
  | _ => False
theorem empty_rd {K : PySem.W.Frag} {m : Ids} {H : Hp} {vs : List V} {xs : List PyData} (h : RDs K m H vs xs) : (!vs.isEmpty) = !xs.isEmpty := by
  cases h <;> rfl
theorem empty_rv {K : PySem.W.Frag} {m : Ids} {H : Hp} {vs : List V} {xs : List Val} (h : RVs K m H vs xs) : (!vs.isEmpty) = !xs.isEmpty := by
  cases h <;> rfl
theorem empty_pr {α β : Type} {R : α → β → Prop} {vs : List α} {xs : List β} (h : Paired R vs xs) : (!vs.isEmpty) = !xs.isEmpty := by
  cases h <;> rfl
theorem vTru_ok {K : PySem.W.Frag} {m : Ids} {H : Hp} {S : Sto} {x : V} {w : Val} {k : Bool → Prop} (r : Rel K m H S) (h : RV K m H x w) (t : vTru S w k) : ∃ b, TruV K x H b ∧ k b := by
  cases w with
  | d d =>
    cases h with
    | d h =>
      cases h with
      | non => exact ⟨_, rfl, t⟩
      | bl b => exact ⟨_, rfl, t⟩
      | int i => exact ⟨_, rfl, t⟩
      | str z => exact ⟨_, ⟨line6 t.1, rfl⟩, t.2⟩
      | lst h1 h2 h3 => exact ⟨_, .inl ⟨_, SqL.of h1, rfl⟩, by rw [empty_rd h3]; exact t⟩
      | tup h1 h2 => exact ⟨_, .inr (.inl ⟨_, sqT_of h1, rfl⟩), by rw [empty_rd h2]; exact t⟩
  | s xs =>
    cases h with
    | s h1 h2 => exact ⟨_, .inl ⟨_, sqL_of h1, rfl⟩, by rw [empty_rd h2]; exact t⟩
  | r i =>
    unfold vTru at t
    simp only at t
    cases q : S[i]? with
    | none => rw [q] at t; exact t.elim
    | some ob =>
      rw [q] at t
      cases ob with
      | lst xs =>
        obtain ⟨a, rfl, _, vs, h1, h2⟩ := h.obj r q (by intro z; cases z)
        exact ⟨_, .inl ⟨_, SqL.of h1, rfl⟩, by rw [empty_rv h2]; exact t⟩
      | ro xs =>
        obtain ⟨a, rfl, _, vs, h1, h2⟩ := h.obj r q (by intro z; cases z)
        exact ⟨_, .inl ⟨_, h1, rfl⟩, by rw [empty_rv h2]; exact t⟩
      | dct kvs =>
        obtain ⟨a, rfl, _, vs, h1, h2⟩ := h.obj r q (by intro z; cases z)
        exact ⟨_, .inr (.inr ⟨_, h1, rfl⟩), by rw [empty_pr h2]; exact t⟩
      | _ => exact t.elim
def wTru (F : WE) : WT := fun W en S k => F W en S fun w S1 => vTru S1 w fun b => k b S1
theorem dt_tru (ha : DE X a F) (he : ∀ whole, isTrue a X.env whole = (do let v ← whole; standAt a.pos; holding [v] (truthy v)) := by intro _; rfl) : DT X a (wTru F) := by
  refine ⟨fun B W tk => ⟨fun pins s st H Q I ⟨m, en, S, k, g, f, q⟩ => (pt_truth (ha.go B W tk) he).run pins s st H Q I ⟨m, en, S, _, g, f, fun x H1 p1 => ?_⟩⟩⟩
  obtain ⟨m1, S1, w1, e1, r1, v1, h1⟩ := p1
  obtain ⟨b, t, kb⟩ := vTru_ok r1 v1 h1
  exact ⟨b, t, q _ _ ⟨m1, S1, e1, r1, kb⟩⟩
def wAnd (F G : WT) : WT := fun W en S k => F W en S fun b S1 => if b = true then G W en S1 k else k false S1
def wOr (F G : WT) : WT := fun W en S k => F W en S fun b S1 => if b = true then k true S1 else G W en S1 k
def wNot (F : WT) : WT := fun W en S k => F W en S fun b S1 => k (!b) S1
theorem dw_and1 (ha : DT X a Ta) : DW X (.BoolOp .And [a] pos) Ta := ⟨fun B W tk => pw_and1 (ha.go B W tk)⟩
theorem dw_or1 (ha : DT X a Ta) : DW X (.BoolOp .Or [a] pos) Ta := ⟨fun B W tk => pw_or1 (ha.go B W tk)⟩
theorem dw_and (ha : DT X a Ta) (hb : DW X (.BoolOp .And (b :: rest) pos) Tb) : DW X (.BoolOp .And (a :: b :: rest) pos) (wAnd Ta Tb) := by
  refine ⟨fun B W tk => ⟨fun wh pins s st H Q I ⟨m, en, S, k, g, f, q⟩ => (pw_and (ha.go B W tk) (hb.go B W tk)).run wh pins s st H Q I ⟨m, en, S, _, g, f, fun c H1 p1 => ?_⟩⟩⟩
  obtain ⟨m1, S1, e1, r1, h1⟩ := p1
  cases c with
  | true => exact ⟨m1, en, S1, k, g.next e1 r1, h1, fun b H' p => q b H' (p.tr e1)⟩
  | false => exact q _ _ ⟨m1, S1, e1, r1, h1⟩
theorem dw_or (ha : DT X a Ta) (hb : DW X (.BoolOp .Or (b :: rest) pos) Tb) : DW X (.BoolOp .Or (a :: b :: rest) pos) (wOr Ta Tb) := by
  refine ⟨fun B W tk => ⟨fun wh pins s st H Q I ⟨m, en, S, k, g, f, q⟩ => (pw_or (ha.go B W tk) (hb.go B W tk)).run wh pins s st H Q I ⟨m, en, S, _, g, f, fun c H1 p1 => ?_⟩⟩⟩
  obtain ⟨m1, S1, e1, r1, h1⟩ := p1
  cases c with
  | false => exact ⟨m1, en, S1, k, g.next e1 r1, h1, fun b H' p => q b H' (p.tr e1)⟩
  | true => exact q _ _ ⟨m1, S1, e1, r1, h1⟩
theorem dt_not (ha : DT X a Ta) : DT X (.UnaryOp .Not a pos) (wNot Ta) := by
  refine ⟨fun B W tk => ⟨fun pins s st H Q I ⟨m, en, S, k, g, f, q⟩ => (pt_not (ha.go B W tk)).run pins s st H Q I ⟨m, en, S, _, g, f, fun c H1 p1 => ?_⟩⟩⟩
  obtain ⟨m1, S1, e1, r1, h1⟩ := p1
  exact q _ _ ⟨m1, S1, e1, r1, h1⟩
/-- bools as values -/
def wAndV (F G : WE) : WE := fun W en S k => F W en S fun x S1 => match x with
  | .d (.bool b) => if b = true then G W en S1 k else k (.d (.bool false)) S1
  | _ => False
def wOrV (F G : WE) : WE := fun W en S k => F W en S fun x S1 => match x with
  | .d (.bool b) => if b = true then k (.d (.bool true)) S1 else G W en S1 k
  | _ => False
def wNotV (F : WE) : WE := fun W en S k => F W en S fun x S1 => match x with
  | .d (.bool b) => k (.d (.bool (!b))) S1
  | _ => False
theorem bool_inv {K : PySem.W.Frag} {m : Ids} {H : Hp} {x : V} {b : Bool} (h : RV K m H x (.d (.bool b))) : x = .bl b := by
  cases h with
  | d h =>
    cases h
    rfl
theorem de_one {op} (h : DE X a F) : DE X (.BoolOp op [a] pos) F := ⟨fun B W tk => pe_one (h.go B W tk)⟩
theorem de_and (ha : DE X a Fa) (hb : DE X (.BoolOp .And (b :: rest) pos) Fb) : DE X (.BoolOp .And (a :: b :: rest) pos) (wAndV Fa Fb) := by
  refine ⟨fun B W tk => ⟨fun pins s st H Q I ⟨m, en, S, k, g, f, q⟩ => (pe_and (ha.go B W tk) (hb.go B W tk)).run pins s st H Q I ⟨m, en, S, _, g, f, fun x H1 p1 => ?_⟩⟩⟩
  obtain ⟨m1, S1, w1, e1, r1, v1, h1⟩ := p1
  split at h1
  · rename_i b
    refine ⟨b, bool_inv v1, ?_⟩
    cases b with
    | true => exact ⟨m1, en, S1, k, g.next e1 r1, h1, fun b H' p => q b H' (p.tr e1)⟩
    | false => exact q _ _ ⟨m1, S1, _, e1, r1, .d (.bl _), h1⟩
  · exact h1.elim
theorem de_or (ha : DE X a Fa) (hb : DE X (.BoolOp .Or (b :: rest) pos) Fb) : DE X (.BoolOp .Or (a :: b :: rest) pos) (wOrV Fa Fb) := by
  refine ⟨fun B W tk => ⟨fun pins s st H Q I ⟨m, en, S, k, g, f, q⟩ => (pe_or (ha.go B W tk) (hb.go B W tk)).run pins s st H Q I ⟨m, en, S, _, g, f, fun x H1 p1 => ?_⟩⟩⟩
  obtain ⟨m1, S1, w1, e1, r1, v1, h1⟩ := p1
  split at h1
  · rename_i b
    refine ⟨b, bool_inv v1, ?_⟩
    cases b with
    | false => exact ⟨m1, en, S1, k, g.next e1 r1, h1, fun b H' p => q b H' (p.tr e1)⟩
    | true => exact q _ _ ⟨m1, S1, _, e1, r1, .d (.bl _), h1⟩
  · exact h1.elim
theorem de_not (ha : DE X a Fa) : DE X (.UnaryOp .Not a pos) (wNotV Fa) := by
  refine ⟨fun B W tk => ⟨fun pins s st H Q I ⟨m, en, S, k, g, f, q⟩ => (pe_not (ha.go B W tk)).run pins s st H Q I ⟨m, en, S, _, g, f, fun x H1 p1 => ?_⟩⟩⟩
  obtain ⟨m1, S1, w1, e1, r1, v1, h1⟩ := p1
  split at h1
  · rename_i b
    exact ⟨b, bool_inv v1, q _ _ ⟨m1, S1, _, e1, r1, .d (.bl _), h1⟩⟩
  · exact h1.elim
def wIfE (T : WT) (F G : WE) : WE := fun W en S k => T W en S fun b S1 => if b = true then F W en S1 k else G W en S1 k
theorem de_ifExp (hc : DT X c Tc) (ha : DE X a Fa) (hb : DE X b Fb) : DE X (.IfExp c a b pos) (wIfE Tc Fa Fb) := by
  refine ⟨fun B W tk => ⟨fun pins s st H Q I ⟨m, en, S, k, g, f, q⟩ => (pe_ifExp (hc.go B W tk) (ha.go B W tk) (hb.go B W tk)).run pins s st H Q I ⟨m, en, S, _, g, f, fun c H1 p1 => ?_⟩⟩⟩
  obtain ⟨m1, S1, e1, r1, h1⟩ := p1
  cases c with
  | true => exact ⟨m1, en, S1, k, g.next e1 r1, h1, fun b H' p => q b H' (p.tr e1)⟩
  | false => exact ⟨m1, en, S1, k, g.next e1 r1, h1, fun b H' p => q b H' (p.tr e1)⟩
end
end DL

set_option Elab.async false
set_option linter.all false
set_option maxRecDepth 100000
set_option maxHeartbeats 4000000
/-! DL4: operators, comparisons, items, slices, built-ins by values. -/
namespace DL
open PySem PySem.Spec PyProof.Rows L2

/-! ### ints -/
def vI (C : Int → Int → Prop) (g : Int → Int → PyData) : R2D := fun x y S k => match x, y with
  | .d (.int i), .d (.int j) => C i j ∧ k (.d (g i j)) S
  | _, _ => False
theorem int_inv {K : PySem.W.Frag} {m : Ids} {H : Hp} {x : V} {b : Int} (h : RV K m H x (.d (.int b))) : x = .int b := by
  cases h with
  | d h =>
    cases h
    rfl
theorem str_inv {K : PySem.W.Frag} {m : Ids} {H : Hp} {x : V} {b : Str} (h : RV K m H x (.d (.str b))) : x = .str b := by
  cases h with
  | d h =>
    cases h
    rfl
theorem non_inv {K : PySem.W.Frag} {m : Ids} {H : Hp} {x : V} (h : RV K m H x (.d .none)) : x = .non := by
  cases h with
  | d h =>
    cases h
    rfl
theorem lift_I {K : PySem.W.Frag} {C : Int → Int → Prop} {C2 : Int → Int → Prop} {g : Int → Int → V} {g2 : Int → Int → PyData} (hc : ∀ i j, C2 i j → C i j) (hg : ∀ i j m H, C2 i j → RD K m H (g i j) (g2 i j)) : Lift2 K (rI C g) (vI C2 g2) := by
  intro H x y Q m S wx wy k r vx vy h q
  unfold vI at h
  split at h
  · exact ⟨_, _, int_inv vx, int_inv vy, hc _ _ h.1, q _ _ (Post.here r (.d (hg _ _ m H h.1)) h.2)⟩
  · exact h.elim
theorem lift_I0 {K : PySem.W.Frag} {g : Int → Int → V} {g2 : Int → Int → PyData} (hg : ∀ i j m H, RD K m H (g i j) (g2 i j)) : Lift2 K (rI0 g) (vI (fun _ _ => True) g2) := by
  intro H x y Q m S wx wy k r vx vy h q
  unfold vI at h
  split at h
  · exact ⟨_, _, int_inv vx, int_inv vy, q _ _ (Post.here r (.d (hg _ _ m H)) h.2)⟩
  · exact h.elim
theorem Lift2.or1 {K : PySem.W.Frag} {a b : R2} {r : R2D} (h : Lift2 K a r) : Lift2 K (fun x y H Q => a x y H Q ∨ b x y H Q) r := fun H x y Q m S wx wy k R vx vy hr q => .inl (h H x y Q m S wx wy k R vx vy hr q)
abbrev vSub : R2D := vI (fun _ _ => True) fun i j => .int (i - j)
abbrev vMod : R2D := vI (fun _ j => 0 < j) fun i j => .int (i % j)
abbrev vFdiv : R2D := vI (fun _ j => 0 < j ∧ j < 18446744073709551616) fun i j => .int (i / j)
abbrev vPow : R2D := vI (fun i j => 0 ≤ j ∧ j ≤ 1000 ∧ -18446744073709551616 < i ∧ i < 18446744073709551616) fun i j => .int (i ^ j.toNat)
abbrev vLt : R2D := vI (fun _ _ => True) fun i j => .bool (decide (i < j))
abbrev vLe : R2D := vI (fun _ _ => True) fun i j => .bool (decide (i ≤ j))
abbrev vGt : R2D := vI (fun _ _ => True) fun i j => .bool (decide (j < i))
abbrev vGe : R2D := vI (fun _ _ => True) fun i j => .bool (decide (j ≤ i))
section
variable {X : Cx} {a b c : Expr} {Fa Fb Fc : WE} {pos : Pos}
theorem od_sub : OpD X (binaryOp .Sub) vSub := .of op_sub (lift_I0 fun _ _ _ _ => .int _)
theorem od_mod : OpD X (binaryOp .Mod) vMod := .of op_mod (lift_I (fun _ _ h => h) fun _ _ _ _ _ => .int _)
theorem od_fdiv : OpD X (binaryOp .FloorDiv) vFdiv := .of op_fdivW (lift_I (fun i j h => wide_div h.1 (b := 64) (by omega) (by decide) (by decide)) fun _ _ _ _ _ => .int _)
theorem od_pow : OpD X (binaryOp .Pow) vPow := .of op_pow (lift_I (fun i j h => ⟨h.1, by omega, by omega⟩) fun _ _ _ _ _ => .int _)
theorem od_lt : OpD X (compareOp .Lt) vLt := .of op_lt (lift_I0 fun _ _ _ _ => .bl _)
theorem od_le : OpD X (compareOp .LtE) vLe := .of op_le (lift_I0 fun _ _ _ _ => .bl _)
theorem od_gt : OpD X (compareOp .Gt) vGt := .of op_gt (lift_I0 fun _ _ _ _ => .bl _)
theorem od_ge : OpD X (compareOp .GtE) vGe := .of op_ge (lift_I0 fun _ _ _ _ => .bl _)
/-- a - in front -/
def vNeg : R1D := fun x S k => match x with
  | .d (.int i) => k (.d (.int (-i))) S
  | _ => False
theorem de_neg (ha : DE X a Fa) : DE X (.UnaryOp .USub a pos) (wUn vNeg Fa) := de_tUn (fun ta h => pe_un un_neg h) (fun H x Q m S w k r v h q => by
  unfold vNeg at h
  split at h
  · exact ⟨_, int_inv v, q _ _ (Post.here r (.d (.int _)) h)⟩
  · exact h.elim) ha
end

/-! ### + -/
def vAdd : R2D := fun x y S k => match x, y with
  | .d (.int i), .d (.int j) => k (.d (.int (i + j))) S
  | .d (.str i), .d (.str j) => i.length + j.length ≤ 1000000 ∧ k (.d (.str (i ++ j))) S
  | .d (.tuple xs), .d (.tuple ys) => xs.length + ys.length ≤ 1000000 ∧ k (.d (.tuple (xs ++ ys))) S
  | x, y => match lstW S x, lstW S y with
    | some xs, some ys => xs.length + ys.length ≤ 1000000 ∧ match dats (xs ++ ys) with
      | some ds => k (.d (.list ds)) S
      | none => False
    | _, _ => False
def vAddM : R2D := fun x y S k => match lstW S x, lstW S y with
  | some xs, some ys => xs.length + ys.length ≤ 1000000 ∧ k (.r S.length) (S ++ [.lst (xs ++ ys)])
  | _, _ => False
section
variable {X : Cx}
theorem OpR.or4 {f : Value → Value → Sem Value} {r1 r2 r3 r4 : R2} (h1 : OpR X f r1) (h2 : OpR X f r2) (h3 : OpR X f r3) (h4 : OpR X f r4) : OpR X f (fun x y H Q => r1 x y H Q ∨ r2 x y H Q ∨ r3 x y H Q ∨ r4 x y H Q) := by
  intro pins s σ H x y v u Q I rx ry q
  rcases q with q | q | q | q
  · exact h1 pins s σ H x y v u Q I rx ry q
  · exact h2 pins s σ H x y v u Q I rx ry q
  · exact h3 pins s σ H x y v u Q I rx ry q
  · exact h4 pins s σ H x y v u Q I rx ry q
theorem od_add : OpD X (binaryOp .Add) vAdd := .of (OpR.or4 op_add op_add_str op_catA op_cat) (by
  intro H x y Q m S wx wy k r vx vy h q
  unfold vAdd at h
  split at h
  · exact .inl ⟨_, _, int_inv vx, int_inv vy, q _ _ (Post.here r (.d (.int _)) h)⟩
  · exact .inr (.inl ⟨_, _, str_inv vx, str_inv vy, line6 h.1, q _ _ (Post.here r (.d (.str _)) h.2)⟩)
  · rename_i xs ys
    refine .inr (.inr (.inl ?_))
    cases vx with
    | d vx =>
      cases vy with
      | d vy =>
        obtain ⟨a, us, rfl, s1, d1⟩ := vx.tup_inv
        obtain ⟨b, vs, rfl, s2, d2⟩ := vy.tup_inv
        refine ⟨a, b, us, vs, rfl, rfl, s1, s2, ?_, fun e => ?_, fun _ e => ?_, fun _ _ p hp => ?_⟩
        · rw [d1.length, d2.length]
          exact line6 h.1
        · subst e
          cases d1
          exact q _ _ (Post.here r (.d vy) (by simpa using h.2))
        · subst e
          cases d2
          exact q _ _ (Post.here r (.d vx) (by simpa using h.2))
        · exact post_tup r (d1.append d2) h.2 q p hp
  · split at h
    · rename_i xs ys ex ey
      obtain ⟨a, us, rfl, s1, d1⟩ := lstW_rel r vx ex
      obtain ⟨b, vs, rfl, s2, d2⟩ := lstW_rel r vy ey
      refine .inr (.inr (.inr ⟨a, b, us, vs, rfl, rfl, s1, s2, ?_, fun p hp => ?_⟩))
      · rw [d1.length, d2.length]
        exact line6 h.1
      · have h2 := h.2
        split at h2
        · rename_i ds ed
          exact post_lst r (dats_rel (d1.append d2) ed) h2 q p hp
        · exact h2.elim
    · exact h.elim)
theorem od_addM : OpD X (binaryOp .Add) vAddM := .of op_cat (by
  intro H x y Q m S wx wy k r vx vy h q
  unfold vAddM at h
  split at h
  · rename_i xs ys ex ey
    obtain ⟨a, us, rfl, s1, d1⟩ := lstW_rel r vx ex
    obtain ⟨b, vs, rfl, s2, d2⟩ := lstW_rel r vy ey
    refine ⟨a, b, us, vs, rfl, rfl, s1, s2, ?_, fun p hp => post_new r (d1.append d2) h.2 q p hp⟩
    rw [d1.length, d2.length]
    exact line6 h.1
  · exact h.elim)
end

/-! ### * -/
def MulOk (i j : Int) : Prop := (-18446744073709551616 < i ∧ i < 18446744073709551616) ∨ (-18446744073709551616 < j ∧ j < 18446744073709551616) ∨ i.natAbs.log2 + j.natAbs.log2 < 1000000
def vMul : R2D := fun x y S k => match x, y with
  | .d (.int i), .d (.int j) => MulOk i j ∧ k (.d (.int (i * j))) S
  | .d (.tuple xs), .d (.int j) => 2 ≤ j ∧ j ≤ 1000 ∧ xs ≠ [] ∧ xs.length ≤ 1000 ∧ k (.d (.tuple (List.replicate j.toNat xs).flatten)) S
  | x, .d (.int j) => match lstW S x with
    | some xs => -1000000 ≤ j ∧ j ≤ 1000000 ∧ xs.length * j.toNat ≤ 1000000 ∧ match dats xs with
      | some ds => k (.d (.list (List.replicate j.toNat ds).flatten)) S
      | none => False
    | none => False
  | _, _ => False
def vMulM : R2D := fun x y S k => match y with
  | .d (.int j) => match lstW S x with
    | some xs => -1000000 ≤ j ∧ j ≤ 1000000 ∧ xs.length * j.toNat ≤ 1000000 ∧ k (.r S.length) (S ++ [.lst (List.replicate j.toNat xs).flatten])
    | none => False
  | _ => False
theorem RVs.rep {K : PySem.W.Frag} {m : Ids} {H : Hp} {vs : List V} {xs : List Val} (h : RVs K m H vs xs) : ∀ k : Nat, RVs K m H (List.replicate k vs).flatten (List.replicate k xs).flatten
  | 0 => .nil
  | k + 1 => by
    rw [List.replicate_succ, List.flatten_cons, List.replicate_succ, List.flatten_cons]
    exact RVs.append h (RVs.rep h k)
section
variable {X : Cx}
theorem od_mul : OpD X (binaryOp .Mult) vMul := .of (OpR.or4 op_mul op_mulW op_repT op_rep) (by
  intro H x y Q m S wx wy k r vx vy h q
  unfold vMul at h
  split at h
  · rename_i i j
    obtain ⟨h1, h2⟩ := h
    rcases h1 with h1 | h1 | h1
    · exact .inl ⟨_, _, int_inv vx, int_inv vy, .inl ⟨by omega, by omega⟩, q _ _ (Post.here r (.d (.int _)) h2)⟩
    · exact .inl ⟨_, _, int_inv vx, int_inv vy, .inr ⟨by omega, by omega⟩, q _ _ (Post.here r (.d (.int _)) h2)⟩
    · exact .inr (.inl ⟨_, _, int_inv vx, int_inv vy, h1, q _ _ (Post.here r (.d (.int _)) h2)⟩)
  · rename_i xs j
    obtain ⟨h1, h2, h3, h4, h5⟩ := h
    cases vx with
    | d vx =>
      obtain ⟨a, us, rfl, s1, d1⟩ := vx.tup_inv
      refine .inr (.inr (.inl ⟨a, _, us, rfl, int_inv vy, s1, fun e => ?_, h1, h2, by rw [d1.length]; exact h4, fun p hp => post_tup r (d1.rep j.toNat) h5 q p hp⟩))
      subst e
      cases d1
      exact h3 rfl
  · split at h
    · rename_i xs ex
      obtain ⟨h1, h2, h3, h4⟩ := h
      obtain ⟨a, us, rfl, s1, d1⟩ := lstW_rel r vx ex
      refine .inr (.inr (.inr ⟨a, _, us, rfl, int_inv vy, s1, by omega, by omega, ?_, fun p hp => ?_⟩))
      · rw [d1.length]
        exact line6 h3
      · split at h4
        · rename_i ds ed
          exact post_lst r ((dats_rel d1 ed).rep _) h4 q p hp
        · exact h4.elim
    · exact h.elim
  · exact h.elim)
theorem od_mulM : OpD X (binaryOp .Mult) vMulM := .of op_rep (by
  intro H x y Q m S wx wy k r vx vy h q
  unfold vMulM at h
  split at h
  · split at h
    · rename_i xs ex
      obtain ⟨h1, h2, h3, h4⟩ := h
      obtain ⟨a, us, rfl, s1, d1⟩ := lstW_rel r vx ex
      refine ⟨a, _, us, rfl, int_inv vy, s1, by omega, by omega, ?_, fun p hp => post_new r (RVs.rep d1 _) h4 q p hp⟩
      rw [d1.length]
      exact line6 h3
    · exact h.elim
  · exact h.elim)
end

/-! ### ==, != -/
def datW (S : Sto) : Val → Option PyData
  | .d x => some x
  | .s _ => none
  | .r i => match S[i]? with
    | some (.lst xs) => match dats xs with
      | some ds => some (.list ds)
      | none => none
    | _ => none
abbrev Sh (x : PyData) : Prop := SeqAt.shaped x = true
def vEq : R2D := fun x y S k => match datW S x, datW S y with
  | some d, some e => Sh d ∧ Sh e ∧ k (.d (.bool (PyData.eqv d e))) S
  | _, _ => False
def vNe : R2D := fun x y S k => match datW S x, datW S y with
  | some d, some e => Sh d ∧ Sh e ∧ k (.d (.bool (!PyData.eqv d e))) S
  | _, _ => False
theorem RDs.dpAll {K : PySem.W.Frag} {m : Ids} {H : Hp} : ∀ {vs : List V} {xs : List PyData}, RDs K m H vs xs → DpAll K H vs xs
  | _, _, .nil => .nil
  | _, _, .cons h t => .cons h.dp t.dpAll
theorem datW_rel {K : PySem.W.Frag} {m : Ids} {H : Hp} {S : Sto} {x : V} {w : Val} {d : PyData} (r : Rel K m H S) (h : RV K m H x w) (e : datW S w = some d) : Dp K H x d := by
  cases w with
  | d z =>
    cases e
    cases h with
    | d h => exact h.dp
  | s xs => cases e
  | r i =>
    unfold datW at e
    simp only at e
    cases q : S[i]? with
    | none => rw [q] at e; cases e
    | some o =>
      rw [q] at e
      cases o with
      | lst xs =>
        obtain ⟨a, rfl, _, vs, h1, h2⟩ := h.obj r q (by intro z; cases z)
        simp only at e
        cases ed : dats xs with
        | none => rw [ed] at e; cases e
        | some ds =>
          rw [ed] at e
          cases e
          exact .lst (SqL.of h1) (dats_rel h2 ed).dpAll
      | _ => cases e
section
variable {X : Cx}
theorem od_eq (hu : X.A.units + 64 < cLine) : OpD X (compareOp .Eq) vEq := .of (op_eqD hu) (by
  intro H x y Q m S wx wy k r vx vy h q
  unfold vEq at h
  split at h
  · rename_i d e ed ee
    exact ⟨d, e, datW_rel r vx ed, datW_rel r vy ee, h.1, h.2.1, q _ _ (Post.here r (.d (.bl _)) h.2.2)⟩
  · exact h.elim)
theorem od_ne (hu : X.A.units + 64 < cLine) : OpD X (compareOp .NotEq) vNe := .of (op_neD hu) (by
  intro H x y Q m S wx wy k r vx vy h q
  unfold vNe at h
  split at h
  · rename_i d e ed ee
    exact ⟨d, e, datW_rel r vx ed, datW_rel r vy ee, h.1, h.2.1, q _ _ (Post.here r (.d (.bl _)) h.2.2)⟩
  · exact h.elim)
end

/-! ### is, is not -/
def isNon : PyData → Bool
  | .none => true
  | _ => false
def vIs (neg : Bool) : R2D := fun x y S k => match x, y with
  | .d x, .d .none => k (.d (.bool (isNon x != neg))) S
  | .r _, .d .none => k (.d (.bool neg)) S
  | .d (.bool i), .d (.bool j) => k (.d (.bool (decide (i = j) != neg))) S
  | _, _ => False
theorem isNon_rel {K : PySem.W.Frag} {m : Ids} {H : Hp} {x : V} {d : PyData} (h : RD K m H x d) : decide (x = .non) = isNon d := by
  cases h <;> first | rfl | (exact decide_eq_false (fun z => by cases z))
section
variable {X : Cx}
theorem Rel.obj_ref {K : PySem.W.Frag} {m : Ids} {H : Hp} {S : Sto} {v : V} {i : Nat} (r : Rel K m H S) (h : RV K m H v (.r i)) (nd : S[i]? ≠ some .dead) : decide (v = .non) = false := by
  cases h with
  | r h => exact decide_eq_false (fun z => by cases z)
  | z h => exact absurd (r.dd i h) nd
def vIsN (neg : Bool) : R2D := fun x y S k => match y with
  | .d .none => match x with
    | .d x => k (.d (.bool (isNon x != neg))) S
    | .r i => S[i]? ≠ some .dead ∧ k (.d (.bool neg)) S
    | .s _ => False
  | .d (.bool j) => match x with
    | .d (.bool i) => k (.d (.bool (decide (i = j) != neg))) S
    | _ => False
  | _ => False
theorem od_is : OpD X (compareOp .Is) (vIsN false) := .of (op_isN.or op_isBl) (by
  intro H x y Q m S wx wy k r vx vy h q
  unfold vIsN at h
  split at h
  · refine .inl ⟨non_inv vy, ?_⟩
    split at h
    · cases vx with
      | d vx =>
        rw [isNon_rel vx]
        exact q _ _ (Post.here r (.d (.bl _)) (by simpa using h))
    · rw [r.obj_ref vx h.1]
      exact q _ _ (Post.here r (.d (.bl _)) h.2)
    · exact h.elim
  · split at h
    · exact .inr ⟨_, _, bool_inv vx, bool_inv vy, q _ _ (Post.here r (.d (.bl _)) (by simpa using h))⟩
    · exact h.elim
  · exact h.elim)
theorem od_isNot : OpD X (compareOp .IsNot) (vIsN true) := .of (op_notN.or op_notBl) (by
  intro H x y Q m S wx wy k r vx vy h q
  unfold vIsN at h
  split at h
  · refine .inl ⟨non_inv vy, ?_⟩
    split at h
    · cases vx with
      | d vx =>
        rw [isNon_rel vx]
        exact q _ _ (Post.here r (.d (.bl _)) (by simpa using h))
    · rw [r.obj_ref vx h.1]
      exact q _ _ (Post.here r (.d (.bl _)) h.2)
    · exact h.elim
  · split at h
    · exact .inr ⟨_, _, bool_inv vx, bool_inv vy, q _ _ (Post.here r (.d (.bl _)) (by simpa using h))⟩
    · exact h.elim
  · exact h.elim)
end

/-! ### in, not in (flat items; signs of a text) -/
def flatD : PyData → Bool
  | .none => true
  | .bool _ => true
  | .int _ => true
  | .str _ => true
  | _ => false
theorem flat_rel {K : PySem.W.Frag} {m : Ids} {H : Hp} {x : V} {d : PyData} (h : RD K m H x d) : flatV x = flatD d := by
  cases h <;> rfl
theorem flats_rel {K : PySem.W.Frag} {m : Ids} {H : Hp} {vs : List V} {xs : List PyData} (h : RDs K m H vs xs) : vs.all flatV = xs.all flatD := by
  induction vs generalizing xs with
  | nil =>
    cases h
    rfl
  | cons v vs ih =>
    cases h with
    | cons h t => rw [List.all_cons, List.all_cons, flat_rel h, ih t]
theorem eqv_rel {K : PySem.W.Frag} {m : Ids} {H : Hp} {x y : V} {d e : PyData} (h : RD K m H x d) (h' : RD K m H y e) (f : flatD d = true) (f' : flatD e = true) : eqV x y = PyData.eqv d e := by
  cases h <;> first | exact absurd (show false = true from f) Bool.false_ne_true | skip
  all_goals (cases h' <;> first | exact absurd (show false = true from f') Bool.false_ne_true | (simp only [eqV, PyData.eqv]) | (simp [eqV, PyData.eqv]))
theorem inv_rel {K : PySem.W.Frag} {m : Ids} {H : Hp} {x : V} {d : PyData} (h : RD K m H x d) (f : flatD d = true) : ∀ {vs : List V} {xs : List PyData}, RDs K m H vs xs → xs.all flatD = true → inV x vs = xs.any fun e => PyData.eqv e d
  | _, _, .nil, _ => rfl
  | _, _, .cons h1 t, g => by
    rw [List.all_cons, Bool.and_eq_true] at g
    have ih := inv_rel h f t g.2
    unfold inV at ih ⊢
    rw [List.any_cons, List.any_cons, ih, eqv_rel h1 h g.1 f]
def vIn (neg : Bool) : R2D := fun x y S k => match x, y with
  | .d (.str i), .d (.str j) => match i.cps with
    | ⟨[c]⟩ => k (.d (.bool (decide (c ∈ j.cps.toList) != neg))) S
    | _ => k (.d (.bool ((!(Builtin.Str.occurrences j i 0 j.length 1).isEmpty) != neg))) S
  | .d d, y => match seqW S y with
    | some ws => match dats ws with
      | some xs => flatD d = true ∧ xs.all flatD = true ∧ k (.d (.bool ((xs.any fun e => PyData.eqv e d) != neg))) S
      | none => False
    | none => False
  | _, _ => False
section
variable {X : Cx}
theorem OpR.or3 {f : Value → Value → Sem Value} {r1 r2 r3 : R2} (h1 : OpR X f r1) (h2 : OpR X f r2) (h3 : OpR X f r3) : OpR X f (fun x y H Q => r1 x y H Q ∨ r2 x y H Q ∨ r3 x y H Q) := by
  intro pins s σ H x y v u Q I rx ry q
  rcases q with q | q | q
  · exact h1 pins s σ H x y v u Q I rx ry q
  · exact h2 pins s σ H x y v u Q I rx ry q
  · exact h3 pins s σ H x y v u Q I rx ry q
theorem od_in : OpD X (compareOp .In) (vIn false) := .of (OpR.or3 op_in_sign op_in_str op_in_seq) (by
  intro H x y Q m S wx wy k r vx vy h q
  unfold vIn at h
  split at h
  · rename_i i j
    split at h
    · rename_i c hc
      refine .inl ⟨c, j, ?_, str_inv vy, q _ _ (Post.here r (.d (.bl _)) (by simpa using h))⟩
      rw [str_inv vx]
      have e : i = ⟨#[c]⟩ := by
        cases i
        simp only at hc
        rw [hc]
      rw [e]
    · exact .inr (.inl ⟨_, _, str_inv vx, str_inv vy, q _ _ (Post.here r (.d (.bl _)) (by simpa using h))⟩)
  · split at h
    · rename_i ws ew
      split at h
      · rename_i xs ex
        cases vx with
        | d vx =>
          obtain ⟨a, vs, rfl, s1, d1⟩ := seqW_rel r vy ew
          have d2 := dats_rel d1 ex
          refine .inr (.inr ⟨a, vs, rfl, s1, by rw [flat_rel vx]; exact h.1, by rw [flats_rel d2]; exact h.2.1, ?_⟩)
          rw [inv_rel vx h.1 d2 h.2.1]
          exact q _ _ (Post.here r (.d (.bl _)) (by simpa using h.2.2))
      · exact h.elim
    · exact h.elim
  · exact h.elim)
theorem od_notIn : OpD X (compareOp .NotIn) (vIn true) := .of (OpR.or3 op_notIn_sign op_notin_str op_notIn_seq) (by
  intro H x y Q m S wx wy k r vx vy h q
  unfold vIn at h
  split at h
  · rename_i i j
    split at h
    · rename_i c hc
      refine .inl ⟨c, j, ?_, str_inv vy, q _ _ (Post.here r (.d (.bl _)) (by simpa using h))⟩
      rw [str_inv vx]
      have e : i = ⟨#[c]⟩ := by
        cases i
        simp only at hc
        rw [hc]
      rw [e]
    · exact .inr (.inl ⟨_, _, str_inv vx, str_inv vy, q _ _ (Post.here r (.d (.bl _)) (by simpa using h))⟩)
  · split at h
    · rename_i ws ew
      split at h
      · rename_i xs ex
        cases vx with
        | d vx =>
          obtain ⟨a, vs, rfl, s1, d1⟩ := seqW_rel r vy ew
          have d2 := dats_rel d1 ex
          refine .inr (.inr ⟨a, vs, rfl, s1, by rw [flat_rel vx]; exact h.1, by rw [flats_rel d2]; exact h.2.1, ?_⟩)
          rw [inv_rel vx h.1 d2 h.2.1]
          exact q _ _ (Post.here r (.d (.bl _)) (by simpa using h.2.2))
      · exact h.elim
    · exact h.elim
  · exact h.elim)
end
end DL

set_option Elab.async false
set_option linter.all false
set_option maxRecDepth 100000
set_option maxHeartbeats 4000000
/-! DL5: items, slices, built-in functions. -/
namespace DL
open PySem PySem.Spec PyProof.Rows L2

/-! ### x[i] -/
def itm {α : Type} (xs : List α) (i : Int) : Option α := if 0 ≤ i then xs[i.toNat]? else if -(xs.length : Int) ≤ i then xs[(i + xs.length).toNat]? else none
theorem itm_at {α : Type} {xs : List α} {i : Int} {v : α} (h : itm xs i = some v) : atI xs i = some v := by
  unfold itm at h
  unfold atI ixN
  by_cases h0 : 0 ≤ i
  · rw [if_pos h0] at h ⊢
    have hl := (List.getElem?_eq_some_iff.mp h).1
    rw [if_pos (show i < (xs.length : Int) by omega)]
    exact h
  · rw [if_neg h0] at h ⊢
    by_cases h1 : -(xs.length : Int) ≤ i
    · rw [if_pos h1] at h ⊢
      exact h
    · rw [if_neg h1] at h
      cases h
theorem itm_len {α β : Type} {xs : List α} {ys : List β} (e : ys.length = xs.length) (R : α → β → Prop) (hg : ∀ (j : Nat) (v : α), xs[j]? = some v → ∃ u, ys[j]? = some u ∧ R v u) {i : Int} {v : α} (h : itm xs i = some v) : ∃ u, itm ys i = some u ∧ R v u := by
  unfold itm at h ⊢
  rw [e]
  by_cases h0 : 0 ≤ i
  · rw [if_pos h0] at h ⊢
    exact hg _ _ h
  · rw [if_neg h0] at h ⊢
    by_cases h1 : -(xs.length : Int) ≤ i
    · rw [if_pos h1] at h ⊢
      exact hg _ _ h
    · rw [if_neg h1] at h
      cases h
def keyW : Val → Option Key
  | .d (.int i) => some (.inl i)
  | .d (.str x) => some (.inr x)
  | _ => none
theorem keyW_rel {K : PySem.W.Frag} {m : Ids} {H : Hp} {x : V} {w : Val} {k : Key} (h : RV K m H x w) (e : keyW w = some k) : x = kV k := by
  cases w with
  | r i => cases e
  | s xs => cases e
  | d d =>
    cases d <;> first | (cases e; done) | skip
    · cases e
      exact int_inv h
    · cases e
      exact str_inv h
def lookK (kvs : List (Key × Val)) (k : Key) : Option Val := (kvs.find? fun p => decide (p.1 = k)).map (·.2)
theorem lookK_rel {K : PySem.W.Frag} {m : Ids} {H : Hp} (k : Key) : ∀ {vs : List (Key × V)} {kvs : List (Key × Val)}, Paired (fun (p : Key × V) (q : Key × Val) => p.1 = q.1 ∧ RV K m H p.2 q.2) vs kvs →
    (lookK kvs k = none ∧ valV vs k = none) ∨ ∃ v w, lookK kvs k = some w ∧ valV vs k = some v ∧ RV K m H v w
  | _, _, .nil => .inl ⟨rfl, rfl⟩
  | (p :: vs), (q :: kvs), .cons h t => by
    by_cases e : q.1 = k
    · exact .inr ⟨p.2, q.2, by simp [lookK, List.find?_cons, e], by simp [valV, List.find?_cons, h.1, e], h.2⟩
    · have ih := lookK_rel k t
      have e1 : lookK (q :: kvs) k = lookK kvs k := by simp [lookK, List.find?_cons, e]
      have e2 : valV (p :: vs) k = valV vs k := by simp [valV, List.find?_cons, h.1, e]
      rw [e1, e2]
      exact ih
def vIx : R2D := fun x y S k => match x, y with
  | .d (.str z), .d (.int i) => z.length ≤ 1000000 ∧ match itm z.cps.toList i with
    | some c => k (.d (.str ⟨#[c]⟩)) S
    | none => False
  | .r a, y => match S[a]? with
    | some (.dct kvs) => match keyW y with
      | some key => match lookK kvs key with
        | some w => k w S
        | none => False
      | none => False
    | some (.lst ws) => match y with
      | .d (.int i) => match itm ws i with
        | some w => k w S
        | none => False
      | _ => False
    | some (.ro ws) => match y with
      | .d (.int i) => match itm ws i with
        | some w => k w S
        | none => False
      | _ => False
    | _ => False
  | .d (.list xs), .d (.int i) => match itm xs i with
    | some d => k (.d d) S
    | none => False
  | .d (.tuple xs), .d (.int i) => match itm xs i with
    | some d => k (.d d) S
    | none => False
  | .s xs, .d (.int i) => match itm xs i with
    | some d => k (.d d) S
    | none => False
  | _, _ => False
section
variable {X : Cx} {pos : Pos} {a b : Expr} {Fa Fb : WE}
def rIxD (H : Hp) (x y : V) (Q : VK) : Prop := ∃ a v, x = .ref a ∧ DGet H a y (some v) ∧ Q v H
theorem ix_dict (hu : X.A.units + 1 < cLine) : IxR X (fun x y H Q => rIxD H x y Q) := by
  intro value slice pins s st H x y v u Q I rx ry h hs
  obtain ⟨a, z, rfl, g, q⟩ := h
  cases rx
  exact PyProof.Rows.tail_any (dict_typeIs I g) PySem.F.slot_dict_getitem.lookup (d_getItem hu I g ry fun w' s3 I3 rw' => ⟨z, H, I3, rw', q⟩) hs
theorem lift_ix : Lift2 X.K (fun x y H Q => rIx X.K x y H Q ∨ rIxD H x y Q) vIx := by
  intro H x y Q m S wx wy k r vx vy h q
  have seqL : ∀ {a : Addr} {vs : List V} {ws : List Val} {i : Int} {w : Val}, x = .ref a → SqL X.K H a vs → RVs X.K m H vs ws → y = .int i → itm ws i = some w → k w S → rIx X.K x y H Q := fun {a vs ws i w} ex hs hv ey hi hk => by
    obtain ⟨v, h1, h2⟩ := itm_len (ys := vs) hv.length (fun w v => RV X.K m H v w) (fun j w hw => hv.get hw) hi
    exact .inl ⟨a, vs, i, v, ex, ey, hs, itm_at h1, q _ _ (Post.here r h2 hk)⟩
  unfold vIx at h
  split at h
  · rename_i z i
    obtain ⟨hz, h⟩ := h
    split at h
    · rename_i c hc
      exact .inl (.inr (.inr ⟨z, i, c, str_inv vx, int_inv vy, line6 hz, itm_at hc, q _ _ (Post.here r (.d (.str _)) h)⟩))
    · exact h.elim
  · rename_i i y'
    split at h
    · rename_i kvs ek
      split at h
      · rename_i key ey
        obtain ⟨a, rfl, _, vs, h1, h2⟩ := vx.obj r ek (by intro z; cases z)
        split at h
        · rename_i w ew
          rcases lookK_rel key h2 with z | ⟨v, w', z1, z2, z3⟩
          · rw [z.1] at ew
            cases ew
          · rw [z1] at ew
            cases ew
            refine .inr ⟨a, v, rfl, ?_, q _ _ (Post.here r z3 h)⟩
            rw [keyW_rel vy ey, ← z2]
            exact DGet.k h1
        · exact h.elim
      · exact h.elim
    · rename_i ws ek
      obtain ⟨a, e1, _, vs, h1, h2⟩ := vx.obj r ek (by intro z; cases z)
      split at h
      · rename_i j
        split at h
        · rename_i w ew
          exact .inl (seqL e1 (SqL.of h1) h2 (int_inv vy) ew h)
        · exact h.elim
      · exact h.elim
    · rename_i ws ek
      obtain ⟨a, e1, _, vs, h1, h2⟩ := vx.obj r ek (by intro z; cases z)
      split at h
      · rename_i j
        split at h
        · rename_i w ew
          exact .inl (seqL e1 h1 h2 (int_inv vy) ew h)
        · exact h.elim
      · exact h.elim
    · exact h.elim
  · rename_i xs i
    split at h
    · rename_i d ed
      cases vx with
      | d vx =>
        cases vx with
        | lst h1 h2 h3 =>
          obtain ⟨v, g1, g2⟩ := itm_len (ys := _) h3.length (fun w v => RD X.K m H v w) (fun j w hw => h3.get hw) ed
          exact .inl (.inl ⟨_, _, i, v, rfl, int_inv vy, SqL.of h1, itm_at g1, q _ _ (Post.here r (.d g2) h)⟩)
    · exact h.elim
  · rename_i xs i
    split at h
    · rename_i d ed
      cases vx with
      | d vx =>
        obtain ⟨a, vs, rfl, h1, h3⟩ := vx.tup_inv
        obtain ⟨v, g1, g2⟩ := itm_len (ys := vs) h3.length (fun w v => RD X.K m H v w) (fun j w hw => h3.get hw) ed
        exact .inl (.inr (.inl ⟨_, _, i, v, rfl, int_inv vy, h1, itm_at g1, q _ _ (Post.here r (.d g2) h)⟩))
    · exact h.elim
  · rename_i xs i
    split at h
    · rename_i d ed
      cases vx with
      | s h1 h3 =>
        obtain ⟨v, g1, g2⟩ := itm_len (ys := _) h3.length (fun w v => RD X.K m H v w) (fun j w hw => h3.get hw) ed
        exact .inl (.inl ⟨_, _, i, v, rfl, int_inv vy, sqL_of h1, itm_at g1, q _ _ (Post.here r (.d g2) h)⟩)
    · exact h.elim
  · exact h.elim
theorem de_ix (hu : X.A.units + 1 < cLine) (ha : DE X a Fa) (hb : DE X b Fb) (hs : PlainIx b := by intro _ _; rfl) : DE X (.Subscript a b pos) (wOp vIx Fa Fb) :=
  de_tOp (fun ta tb p1 p2 => pe_ix (IxR.or ix_seq (ix_dict hu)) p1 p2 hs) lift_ix ha hb
end

/-! ### slices -/
abbrev WO := XQ → Env → Sto → (Option Int → Sto → Prop) → Prop
def PostO (K : PySem.W.Frag) (m : Ids) (H : Hp) (k : Option Int → Sto → Prop) (b : Option Int) (H' : Hp) : Prop := ∃ m' S', Ext m H m' H' ∧ Rel K m' H' S' ∧ k b S'
def lO (K : PySem.W.Frag) (B : Bs) (F : WO) (W : XQ) : TO := fun st H Q => ∃ m en S k, Stg K B m H S st en ∧ F W en S k ∧ ∀ b H', PostO K m H k b H' → Q b H'
structure DO (X : Cx) (e : Option Expr) (F : WO) : Prop where
  go : ∀ (B : Bs) (W : XQ), Takes X (lX X B W) → PO X e (lO X.K B F W)
def wNoP : WO := fun _ _ S k => k none S
def wP (F : WE) : WO := fun W en S k => F W en S fun w S1 => match w with
  | .d (.int i) => k (some i) S1
  | _ => False
def cut {α : Type} (xs : List α) (lo hi : Option Int) : List α := (xs.drop (HT.sIx xs.length 0 lo)).take (HT.sIx xs.length xs.length hi - HT.sIx xs.length 0 lo)
def cutStr (z : Str) (lo hi : Option Int) : Str := ⟨((z.cps.toList.drop (HT.sIx z.length 0 lo)).take (HT.sIx z.length z.length hi - HT.sIx z.length 0 lo)).toArray⟩
abbrev RSD := Val → Option Int → Option Int → Sto → KE → Prop
def vSl : RSD := fun x lo hi S k => match x with
  | .d (.str z) => z.length ≤ 1000000 ∧ k (.d (.str (cutStr z lo hi))) S
  | .d (.tuple xs) => k (.d (.tuple (cut xs lo hi))) S
  | x => match lsrW S x with
    | some ws => match dats (cut ws lo hi) with
      | some ds => k (.d (.list ds)) S
      | none => False
    | none => False
def vSlM : RSD := fun x lo hi S k => match lsrW S x with
  | some ws => k (.r S.length) (S ++ [.lst (cut ws lo hi)])
  | none => False
def wSl (r : RSD) (F : WE) (L U : WO) : WE := fun W en S k => F W en S fun x S1 => L W en S1 fun lo S2 => U W en S2 fun hi S3 => r x lo hi S3 k
section
variable {X : Cx} {e : Expr} {lo hi : Option Expr} {F : WE} {L U : WO} {pos p2 : Pos}
theorem do_none : DO X none wNoP := ⟨fun B W tk => ⟨fun pins s st H Q I ⟨m, en, S, k, g, f, q⟩ => (po_none (X := X)).run pins s st H Q I (q _ _ ⟨m, S, Ext.refl, g.rel, f⟩)⟩⟩
theorem do_some (h : DE X e F) : DO X (some e) (wP F) := by
  refine ⟨fun B W tk => ⟨fun pins s st H Q I ⟨m, en, S, k, g, f, q⟩ => (po_some (h.go B W tk)).run pins s st H Q I ⟨m, en, S, _, g, f, fun x H1 p1 => ?_⟩⟩⟩
  obtain ⟨m1, S1, w1, e1, r1, v1, h1⟩ := p1
  split at h1
  · exact ⟨_, int_inv v1, q _ _ ⟨m1, S1, e1, r1, h1⟩⟩
  · exact h1.elim
def LiftS (K : PySem.W.Frag) (r2 : V → Option Int → Option Int → Hp → VK → Prop) (r : RSD) : Prop := ∀ (H : Hp) (x : V) (lo hi : Option Int) (Q : VK) (m : Ids) (S : Sto) (w : Val) (k : KE), Rel K m H S → RV K m H x w → r w lo hi S k → (∀ v H', Post K m H k v H' → Q v H') → r2 x lo hi H Q
theorem de_sl {r2 : V → Option Int → Option Int → Hp → VK → Prop} {r : RSD} (hr : SlR X r2) (l : LiftS X.K r2 r) (he : DE X e F) (hl : DO X lo L) (hu : DO X hi U) : DE X (.Subscript e (.Slice lo hi none p2) pos) (wSl r F L U) := by
  refine ⟨fun B W tk => ⟨fun pins s st H Q I ⟨m, en, S, k, g, f, q⟩ => (pe_slice hr (he.go B W tk) (hl.go B W tk) (hu.go B W tk)).run pins s st H Q I ⟨m, en, S, _, g, f, fun x H1 p1 => ?_⟩⟩⟩
  obtain ⟨m1, S1, w1, e1, r1, v1, h1⟩ := p1
  refine ⟨m1, en, S1, _, g.next e1 r1, h1, fun l2 H2 p2 => ?_⟩
  obtain ⟨m2, S2, e2, r2', h2⟩ := p2
  refine ⟨m2, en, S2, _, (g.next e1 r1).next e2 r2', h2, fun l3 H3 p3 => ?_⟩
  obtain ⟨m3, S3, e3, r3, h3⟩ := p3
  exact l H3 x l2 l3 Q m3 S3 w1 k r3 ((v1.mono e2).mono e3) h3 fun v H' p => q v H' (p.tr ((e1.trans e2).trans e3))
theorem SlR.or3 {r1 r2 r3 : V → Option Int → Option Int → Hp → VK → Prop} (h1 : SlR X r1) (h2 : SlR X r2) (h3 : SlR X r3) : SlR X (fun x lo hi H Q => r1 x lo hi H Q ∨ r2 x lo hi H Q ∨ r3 x lo hi H Q) := by
  intro pins s σ H x v vl vu lo hi sl Q I rx hs pl pu q
  rcases q with q | q | q
  · exact h1 pins s σ H x v vl vu lo hi sl Q I rx hs pl pu q
  · exact h2 pins s σ H x v vl vu lo hi sl Q I rx hs pl pu q
  · exact h3 pins s σ H x v vl vu lo hi sl Q I rx hs pl pu q
theorem cut_rds {K : PySem.W.Frag} {m : Ids} {H : Hp} {vs : List V} {xs : List PyData} {lo hi : Option Int} (h : RDs K m H vs xs) : RDs K m H (cutV vs lo hi) (cut xs lo hi) := by
  unfold cutV cut
  rw [h.length]
  exact (h.drop _).take _
theorem cut_rvs {K : PySem.W.Frag} {m : Ids} {H : Hp} {vs : List V} {xs : List Val} {lo hi : Option Int} (h : RVs K m H vs xs) : RVs K m H (cutV vs lo hi) (cut xs lo hi) := by
  unfold cutV cut
  rw [h.length]
  exact RVs.take _ (RVs.drop _ h)
theorem cut_whole {α : Type} {xs : List α} {lo hi : Option Int} (h : HT.sIx xs.length 0 lo = 0 ∧ HT.sIx xs.length xs.length hi = xs.length) : cut xs lo hi = xs := by
  unfold cut
  rw [h.1, h.2]
  simp
theorem lift_sl : LiftS X.K (fun x lo hi H Q => rSlS x lo hi H Q ∨ rSlA X.K x lo hi H Q ∨ rSlL X.K x lo hi H Q) vSl := by
  intro H x lo hi Q m S w k r v h q
  unfold vSl at h
  split at h
  · exact .inl ⟨_, str_inv v, line6 h.1, q _ _ (Post.here r (.d (.str _)) h.2)⟩
  · rename_i xs
    cases v with
    | d v =>
      obtain ⟨a, vs, rfl, h1, h2⟩ := v.tup_inv
      refine .inr (.inl ⟨a, vs, rfl, h1, fun hw => ?_, fun hw p hp => post_tup r (cut_rds h2) h q p hp⟩)
      rw [h2.length] at hw
      refine q _ _ (Post.here r (.d v) ?_)
      rw [cut_whole hw] at h
      exact h
  · split at h
    · rename_i ws ew
      obtain ⟨a, vs, rfl, h1, h2⟩ := lsrW_rel r v ew
      split at h
      · rename_i ds ed
        exact .inr (.inr ⟨a, vs, rfl, h1, fun p hp => post_lst r (dats_rel (cut_rvs h2) ed) h q p hp⟩)
      · exact h.elim
    · exact h.elim
theorem lift_slM : LiftS X.K (rSlL X.K) vSlM := by
  intro H x lo hi Q m S w k r v h q
  unfold vSlM at h
  split at h
  · rename_i ws ew
    obtain ⟨a, vs, rfl, h1, h2⟩ := lsrW_rel r v ew
    exact ⟨a, vs, rfl, h1, fun p hp => post_new r (cut_rvs h2) h q p hp⟩
  · exact h.elim
theorem de_slice (he : DE X e F) (hl : DO X lo L) (hu : DO X hi U) : DE X (.Subscript e (.Slice lo hi none p2) pos) (wSl vSl F L U) := de_sl (SlR.or3 sl_str sl_tupA sl_list) lift_sl he hl hu
theorem de_sliceM (he : DE X e F) (hl : DO X lo L) (hu : DO X hi U) : DE X (.Subscript e (.Slice lo hi none p2) pos) (wSl vSlM F L U) := de_sl sl_list lift_slM he hl hu
/-- xs[::-1] of a list -/
def vRev : R1D := fun x S k => match lsrW S x with
  | some ws => match dats ws with
    | some ds => k (.d (.list ds.reverse)) S
    | none => False
  | none => False
theorem de_revL {k : Nat} {p1 p3 : Pos} (he : DE X e F) : DE X (.Subscript e (.Slice none none (some (.UnaryOp .USub (.Constant (.int 1) k p1) p2)) p3) pos) (wUn vRev F) := by
  refine ⟨fun B W tk => ⟨fun pins s st H Q I ⟨m, en, S, k, g, f, q⟩ => (pe_revL (he.go B W tk)).run pins s st H Q I ⟨m, en, S, _, g, f, fun x H1 p1 => ?_⟩⟩⟩
  obtain ⟨m1, S1, w1, e1, r1, v1, h1⟩ := p1
  unfold vRev at h1
  split at h1
  · rename_i ws ew
    obtain ⟨a, vs, rfl, h2, h3⟩ := lsrW_rel r1 v1 ew
    split at h1
    · rename_i ds ed
      exact ⟨a, vs, rfl, h2, fun p hp => post_lst r1 (dats_rel h3 ed).reverse h1 (fun v H' pp => q v H' (pp.tr e1)) p hp⟩
    · exact h1.elim
  · exact h1.elim
end

/-! ### built-in functions -/
def intsD : List PyData → Option (List Int)
  | [] => some []
  | .int i :: r => match intsD r with
    | some xs => some (i :: xs)
    | none => none
  | _ :: _ => none
@[simp] theorem intsD_map : ∀ xs : List Int, intsD (xs.map PyData.int) = some xs
  | [] => rfl
  | x :: xs => by simp [intsD, intsD_map xs]
theorem intsD_eq : ∀ {vs : List PyData} {xs : List Int}, intsD vs = some xs → vs = xs.map PyData.int
  | [], _, h => by
    cases h
    rfl
  | .int x :: r, _, h => by
    unfold intsD at h
    cases e : intsD r with
    | none => rw [e] at h; cases h
    | some ys =>
      rw [e] at h
      cases h
      rw [intsD_eq e]
      rfl
  | .none :: _, _, h => by cases h
  | .bool _ :: _, _, h => by cases h
  | .str _ :: _, _, h => by cases h
  | .list _ :: _, _, h => by cases h
  | .tuple _ :: _, _, h => by cases h
  | .dict _ :: _, _, h => by cases h
def blsD : List PyData → Option (List Bool)
  | [] => some []
  | .bool i :: r => match blsD r with
    | some xs => some (i :: xs)
    | none => none
  | _ :: _ => none
@[simp] theorem blsD_map : ∀ xs : List Bool, blsD (xs.map PyData.bool) = some xs
  | [] => rfl
  | x :: xs => by simp [blsD, blsD_map xs]
theorem blsD_eq : ∀ {vs : List PyData} {xs : List Bool}, blsD vs = some xs → vs = xs.map PyData.bool
  | [], _, h => by
    cases h
    rfl
  | .bool x :: r, _, h => by
    unfold blsD at h
    cases e : blsD r with
    | none => rw [e] at h; cases h
    | some ys =>
      rw [e] at h
      cases h
      rw [blsD_eq e]
      rfl
  | .none :: _, _, h => by cases h
  | .int _ :: _, _, h => by cases h
  | .str _ :: _, _, h => by cases h
  | .list _ :: _, _, h => by cases h
  | .tuple _ :: _, _, h => by cases h
  | .dict _ :: _, _, h => by cases h
theorem RDs.ints {K : PySem.W.Frag} {m : Ids} {H : Hp} : ∀ {vs : List V} {ns : List Int}, RDs K m H vs (ns.map PyData.int) → vs = ns.map V.int
  | _, [], .nil => rfl
  | _, _ :: _, .cons (.int i) t => congrArg (V.int i :: ·) (RDs.ints t)
theorem RDs.bls {K : PySem.W.Frag} {m : Ids} {H : Hp} : ∀ {vs : List V} {ns : List Bool}, RDs K m H vs (ns.map PyData.bool) → vs = ns.map V.bl
  | _, [], .nil => rfl
  | _, _ :: _, .cons (.bl i) t => congrArg (V.bl i :: ·) (RDs.bls t)
/-- the ints, the bools of a list -/
def lsI (S : Sto) (w : Val) : Option (List Int) := match lsrW S w with
  | some ws => match dats ws with
    | some ds => intsD ds
    | none => none
  | none => none
def lsB (S : Sto) (w : Val) : Option (List Bool) := match lsrW S w with
  | some ws => match dats ws with
    | some ds => blsD ds
    | none => none
  | none => none
theorem lsI_rel {K : PySem.W.Frag} {m : Ids} {H : Hp} {S : Sto} {x : V} {w : Val} {ns : List Int} (r : Rel K m H S) (h : RV K m H x w) (e : lsI S w = some ns) : ∃ a, x = .ref a ∧ SqL K H a (ns.map V.int) := by
  unfold lsI at e
  split at e
  · rename_i ws ew
    obtain ⟨a, vs, rfl, h1, h2⟩ := lsrW_rel r h ew
    split at e
    · rename_i ds ed
      have h3 := dats_rel h2 ed
      rw [intsD_eq e] at h3
      rw [RDs.ints h3] at h1
      exact ⟨a, rfl, h1⟩
    · cases e
  · cases e
theorem lsB_rel {K : PySem.W.Frag} {m : Ids} {H : Hp} {S : Sto} {x : V} {w : Val} {ns : List Bool} (r : Rel K m H S) (h : RV K m H x w) (e : lsB S w = some ns) : ∃ a, x = .ref a ∧ SqL K H a (ns.map V.bl) := by
  unfold lsB at e
  split at e
  · rename_i ws ew
    obtain ⟨a, vs, rfl, h1, h2⟩ := lsrW_rel r h ew
    split at e
    · rename_i ds ed
      have h3 := dats_rel h2 ed
      rw [blsD_eq e] at h3
      rw [RDs.bls h3] at h1
      exact ⟨a, rfl, h1⟩
    · cases e
  · cases e
def maxI : List Int → Int
  | [] => 0
  | [x] => x
  | x :: y :: r => let z := maxI (y :: r); if x < z then z else x
def minI : List Int → Int
  | [] => 0
  | [x] => x
  | x :: y :: r => let z := minI (y :: r); if z < x then z else x
theorem maxI_mem : ∀ {l : List Int}, l ≠ [] → maxI l ∈ l
  | [], h => absurd rfl h
  | [x], _ => List.mem_cons_self
  | x :: y :: r, _ => by
    have ih := maxI_mem (l := y :: r) (by simp)
    show (if x < maxI (y :: r) then maxI (y :: r) else x) ∈ _
    split
    · exact List.mem_cons_of_mem _ ih
    · exact List.mem_cons_self
theorem maxI_le : ∀ {l : List Int} {a : Int}, a ∈ l → a ≤ maxI l
  | [x], a, h => by
    have : a = x := by simpa using h
    rw [this]
    exact Int.le_refl _
  | x :: y :: r, a, h => by
    have ih : ∀ b, b ∈ y :: r → b ≤ maxI (y :: r) := fun b hb => maxI_le hb
    show a ≤ (if x < maxI (y :: r) then maxI (y :: r) else x)
    rcases List.mem_cons.mp h with h | h
    · subst h
      split <;> omega
    · have := ih a h
      split <;> omega
theorem minI_mem : ∀ {l : List Int}, l ≠ [] → minI l ∈ l
  | [], h => absurd rfl h
  | [x], _ => List.mem_cons_self
  | x :: y :: r, _ => by
    have ih := minI_mem (l := y :: r) (by simp)
    show (if minI (y :: r) < x then minI (y :: r) else x) ∈ _
    split
    · exact List.mem_cons_of_mem _ ih
    · exact List.mem_cons_self
theorem minI_le : ∀ {l : List Int} {a : Int}, a ∈ l → minI l ≤ a
  | [x], a, h => by
    have : a = x := by simpa using h
    rw [this]
    exact Int.le_refl _
  | x :: y :: r, a, h => by
    have ih : ∀ b, b ∈ y :: r → minI (y :: r) ≤ b := fun b hb => minI_le hb
    show (if minI (y :: r) < x then minI (y :: r) else x) ≤ a
    rcases List.mem_cons.mp h with h | h
    · subst h
      split <;> omega
    · have := ih a h
      split <;> omega
def vLen : RCD := fun ws S k => match ws with
  | [.d (.str z)] => z.length ≤ 1000000 ∧ k (.d (.int z.length)) S
  | [.r i] => match S[i]? with
    | some (.lst xs) => k (.d (.int xs.length)) S
    | some (.ro xs) => k (.d (.int xs.length)) S
    | some (.dct xs) => k (.d (.int xs.length)) S
    | _ => False
  | [.d (.list xs)] => k (.d (.int xs.length)) S
  | [.d (.tuple xs)] => k (.d (.int xs.length)) S
  | [.s xs] => k (.d (.int xs.length)) S
  | _ => False
def vMax2 : RCD := fun ws S k => match ws with
  | [.d (.int i), .d (.int j)] => k (.d (.int (if j > i then j else i))) S
  | _ => False
def vMin2 : RCD := fun ws S k => match ws with
  | [.d (.int i), .d (.int j)] => k (.d (.int (if j < i then j else i))) S
  | _ => False
def vMax1 : RCD := fun ws S k => match ws with
  | [w] => match lsI S w with
    | some ns => ns ≠ [] ∧ k (.d (.int (maxI ns))) S
    | none => False
  | _ => False
def vMin1 : RCD := fun ws S k => match ws with
  | [w] => match lsI S w with
    | some ns => ns ≠ [] ∧ k (.d (.int (minI ns))) S
    | none => False
  | _ => False
def vSum1 : RCD := fun ws S k => match ws with
  | [w] => match lsI S w with
    | some ns => k (.d (.int ns.sum)) S
    | none => False
  | _ => False
def vAll : RCD := fun ws S k => match ws with
  | [w] => match lsB S w with
    | some ns => k (.d (.bool (ns.all id))) S
    | none => False
  | _ => False
def vInt : RCD := fun ws S k => match ws with
  | [.d (.int i)] => k (.d (.int i)) S
  | [.d (.bool b)] => k (.d (.int (if b then 1 else 0))) S
  | _ => False
def vTuple : RCD := fun ws S k => match ws with
  | [.d (.tuple xs)] => k (.d (.tuple xs)) S
  | [w] => match lsrW S w with
    | some ws => match dats ws with
      | some ds => k (.d (.tuple ds)) S
      | none => False
    | none => False
  | _ => False
section
variable {X : Cx} {x : Str} {p pos : Pos} {e : Expr} {es : List Expr} {G : WA} {id T : String}
theorem CallR.or3 {f : Value} {r1 r2 r3 : List V → Hp → VK → Prop} (h1 : CallR X f r1) (h2 : CallR X f r2) (h3 : CallR X f r3) : CallR X f (fun xs H Q => r1 xs H Q ∨ r2 xs H Q ∨ r3 xs H Q) := by
  intro pins s σ H xs us Q I r q
  rcases q with q | q | q
  · exact h1 pins s σ H xs us Q I r q
  · exact h2 pins s σ H xs us Q I r q
  · exact h3 pins s σ H xs us Q I r q
theorem lift_len : LiftC X.K (fun xs H Q => (∃ p ys, xs = [.ref p] ∧ (SqL X.K H p ys ∨ SqT X.K H p ys) ∧ Q (.int ys.length) H) ∨ (∃ z, xs = [.str z] ∧ z.length ≤ sizeLine ∧ Q (.int z.length) H) ∨ ∃ p kvs, xs = [.ref p] ∧ H p = some (.dK kvs) ∧ Q (.int kvs.length) H) vLen := by
  intro H xs Q m S ws k r v h q
  unfold vLen at h
  split at h
  · cases v with
    | cons v t =>
      cases t
      exact .inr (.inl ⟨_, by rw [str_inv v], line6 h.1, q _ _ (Post.here r (.d (.int _)) h.2)⟩)
  · cases v with
    | cons v t =>
      cases t
      split at h
      · rename_i ys e
        obtain ⟨a, rfl, _, vs, h1, h2⟩ := v.obj r e (by intro z; cases z)
        refine .inl ⟨a, vs, rfl, .inl (SqL.of h1), ?_⟩
        rw [h2.length]
        exact q _ _ (Post.here r (.d (.int _)) h)
      · rename_i ys e
        obtain ⟨a, rfl, _, vs, h1, h2⟩ := v.obj r e (by intro z; cases z)
        refine .inl ⟨a, vs, rfl, .inl h1, ?_⟩
        rw [h2.length]
        exact q _ _ (Post.here r (.d (.int _)) h)
      · rename_i ys e
        obtain ⟨a, rfl, _, vs, h1, h2⟩ := v.obj r e (by intro z; cases z)
        refine .inr (.inr ⟨a, vs, rfl, h1, ?_⟩)
        rw [Paired.length h2]
        exact q _ _ (Post.here r (.d (.int _)) h)
      · exact h.elim
  · cases v with
    | cons v t =>
      cases t
      cases v with
      | d v =>
        cases v with
        | lst h1 h2 h3 =>
          refine .inl ⟨_, _, rfl, .inl (SqL.of h1), ?_⟩
          rw [h3.length]
          exact q _ _ (Post.here r (.d (.int _)) h)
  · cases v with
    | cons v t =>
      cases t
      cases v with
      | d v =>
        obtain ⟨a, vs, rfl, h1, h3⟩ := v.tup_inv
        refine .inl ⟨_, _, rfl, .inr h1, ?_⟩
        rw [h3.length]
        exact q _ _ (Post.here r (.d (.int _)) h)
  · cases v with
    | cons v t =>
      cases t
      cases v with
      | s h1 h3 =>
        refine .inl ⟨_, _, rfl, .inl (sqL_of h1), ?_⟩
        rw [h3.length]
        exact q _ _ (Post.here r (.d (.int _)) h)
  · exact h.elim
theorem lift_max2 {g : Int → Int → Int} {f : RCD} (hf : f = fun ws S k => match ws with
  | [.d (.int i), .d (.int j)] => k (.d (.int (g i j))) S
  | _ => False) : LiftC X.K (fun xs H Q => ∃ i j, xs = [.int i, .int j] ∧ Q (.int (g i j)) H) f := by
  intro H xs Q m S ws k r v h q
  subst hf
  split at h
  · cases v with
    | cons v t =>
      cases t with
      | cons v2 t =>
        cases t
        exact ⟨_, _, by rw [int_inv v, int_inv v2], q _ _ (Post.here r (.d (.int _)) h)⟩
  · exact h.elim
theorem lift_max1 : LiftC X.K (rMax X.K) vMax1 := by
  intro H xs Q m S ws k r v h q
  unfold vMax1 at h
  split at h
  · cases v with
    | cons v t =>
      cases t
      split at h
      · rename_i ns e
        obtain ⟨a, rfl, h1⟩ := lsI_rel r v e
        refine ⟨a, ns, rfl, h1, List.length_pos_iff.mpr h.1, fun z hz hle => ?_⟩
        have e2 : z = maxI ns := Int.le_antisymm (maxI_le hz) (hle _ (maxI_mem h.1))
        rw [e2]
        exact q _ _ (Post.here r (.d (.int _)) h.2)
      · exact h.elim
  · exact h.elim
theorem lift_min1 : LiftC X.K (rMin X.K) vMin1 := by
  intro H xs Q m S ws k r v h q
  unfold vMin1 at h
  split at h
  · cases v with
    | cons v t =>
      cases t
      split at h
      · rename_i ns e
        obtain ⟨a, rfl, h1⟩ := lsI_rel r v e
        refine ⟨a, ns, rfl, h1, List.length_pos_iff.mpr h.1, fun z hz hle => ?_⟩
        have e2 : z = minI ns := Int.le_antisymm (hle _ (minI_mem h.1)) (minI_le hz)
        rw [e2]
        exact q _ _ (Post.here r (.d (.int _)) h.2)
      · exact h.elim
  · exact h.elim
theorem lift_sum1 : LiftC X.K (rSum X.K) vSum1 := by
  intro H xs Q m S ws k r v h q
  unfold vSum1 at h
  split at h
  · cases v with
    | cons v t =>
      cases t
      split at h
      · rename_i ns e
        obtain ⟨a, rfl, h1⟩ := lsI_rel r v e
        exact ⟨a, ns, rfl, h1, q _ _ (Post.here r (.d (.int _)) h)⟩
      · exact h.elim
  · exact h.elim
theorem lift_all : LiftC X.K (rAll X.K) vAll := by
  intro H xs Q m S ws k r v h q
  unfold vAll at h
  split at h
  · cases v with
    | cons v t =>
      cases t
      split at h
      · rename_i ns e
        obtain ⟨a, rfl, h1⟩ := lsB_rel r v e
        exact ⟨a, ns, rfl, h1, q _ _ (Post.here r (.d (.bl _)) h)⟩
      · exact h.elim
  · exact h.elim
theorem lift_int : LiftC X.K (fun xs H Q => (∃ i, xs = [.int i] ∧ Q (.int i) H) ∨ ∃ k, xs = [.bl k] ∧ Q (.int (if k then 1 else 0)) H) vInt := by
  intro H xs Q m S ws k r v h q
  unfold vInt at h
  split at h
  · cases v with
    | cons v t =>
      cases t
      exact .inl ⟨_, by rw [int_inv v], q _ _ (Post.here r (.d (.int _)) h)⟩
  · cases v with
    | cons v t =>
      cases t
      exact .inr ⟨_, by rw [bool_inv v], q _ _ (Post.here r (.d (.int _)) h)⟩
  · exact h.elim
theorem lift_tuple : LiftC X.K (fun xs H Q => ∃ p ys, xs = [.ref p] ∧ ((SqL X.K H p ys ∧ ∀ l, H l = none → Q (.ref l) (upd H l (.tup ys))) ∨ (SqT X.K H p ys ∧ Q (.ref p) H))) vTuple := by
  intro H xs Q m S ws k r v h q
  unfold vTuple at h
  split at h
  · cases v with
    | cons v t =>
      cases t
      cases v with
      | d v =>
        obtain ⟨a, vs, rfl, h1, h3⟩ := id v.tup_inv
        exact ⟨a, vs, rfl, .inr ⟨h1, q _ _ (Post.here r (.d v) h)⟩⟩
  · cases v with
    | cons v t =>
      cases t
      split at h
      · rename_i ws ew
        obtain ⟨a, vs, rfl, h1, h2⟩ := lsrW_rel r v ew
        split at h
        · rename_i ds ed
          exact ⟨a, vs, rfl, .inl ⟨h1, fun p hp => post_tup r (dats_rel h2 ed) h q p hp⟩⟩
        · exact h.elim
      · exact h.elim
  · exact h.elim
theorem de_callB {r2 : List V → Hp → VK → Prop} {r : RCD} (hc : CallR X (.builtin id) r2) (l : LiftC X.K r2 r) (hg : Gl X x) (hm : X.mg x = none) (hv : bootBuiltins x = some (.builtin id)) (ha : DA X (e :: es) G) (hn : x ≠ "__name__" := by decide) (hdb : (x == ("__debug__" : Str)) = false := by decide)
    (he : starEach (e :: es) X.env = (false, eval e X.env) :: starEach es X.env := by rfl) (hpl : (backTo pos (starEach es X.env)).any (·.1) = false := by rfl) : DE X (.Call (.Name x p) (e :: es) [] pos) (wCB r G) :=
  de_tCB (fun t h => pe_callB hc hg hm hv h hn hdb he hpl) l ha
theorem de_callTy {r2 : List V → Hp → VK → Prop} {r : RCD} (hc : CallR X (.type T) r2) (l : LiftC X.K r2 r) (hg : Gl X x) (hm : X.mg x = none) (hv : bootBuiltins x = some (.type T)) (ha : DA X (e :: es) G) (hn : x ≠ "__name__" := by decide) (hdb : (x == ("__debug__" : Str)) = false := by decide)
    (he : starEach (e :: es) X.env = (false, eval e X.env) :: starEach es X.env := by rfl) (hpl : (backTo pos (starEach es X.env)).any (·.1) = false := by rfl) : DE X (.Call (.Name x p) (e :: es) [] pos) (wCB r G) :=
  de_tCB (fun t h => pe_callTy hc hg hm hv h hn hdb he hpl) l ha
/-! isinstance(e, T), T a built-in type -/
def isT (n : String) : PyData → Bool
  | .none => n == "NoneType"
  | .bool _ => n == "bool" || n == "int"
  | .int _ => n == "int"
  | .str _ => n == "str"
  | .list _ => n == "list"
  | .tuple _ => n == "tuple"
  | .dict _ => n == "dict"
def vIsi (n : String) : R1D := fun x S k => match x with
  | .d d => k (.d (.bool (isT n d))) S
  | .s _ => False
  | .r i => match S[i]? with
    | some (.lst _) => k (.d (.bool (n == "list"))) S
    | _ => False
theorem kits : ∀ n ∈ ["int", "bool", "str", "tuple", "list"], ∀ p ∈ [("NoneType", false), ("bool", n == "bool" || n == "int"), ("int", n == "int"), ("str", n == "str"), ("list", n == "list"), ("tuple", n == "tuple")], kitB p.1 n = some p.2 := by decide +kernel
theorem de_isi {n : String} {e2 : Expr} (hk : n ∈ ["int", "bool", "str", "tuple", "list"]) (hg : Gl X "isinstance") (hm : X.mg "isinstance" = none) (hT : PE X e2 (tC (.ty n))) {F : WE} (ha : DE X e F)
    (he : starEach (e :: [e2]) X.env = (false, eval e X.env) :: starEach [e2] X.env := by rfl) (he2 : starEach [e2] X.env = (false, eval e2 X.env) :: starEach [] X.env := by rfl) (hpl : (backTo pos (starEach [e2] X.env)).any (·.1) = false := by rfl) : DE X (.Call (.Name "isinstance" p) [e, e2] [] pos) (wUn (vIsi n) F) := by
  refine ⟨fun B W tk => ⟨fun pins s st H Q I ⟨m, en, S, k, g, f, q⟩ => (pe_callB call_isi hg hm PyProof.Rows.boot_isinstance (pa_cons (ha.go B W tk) (pa_cons hT pa_nil he2) he) (by decide) (by decide) he hpl).run pins s st H Q I ⟨m, en, S, _, g, f, fun x H1 p1 => ?_⟩⟩⟩
  obtain ⟨m1, S1, w1, e1, r1, v1, h1⟩ := p1
  have kk := kits n hk
  have fin : ∀ {t : String} {b : Bool}, (t, b) ∈ [("NoneType", false), ("bool", n == "bool" || n == "int"), ("int", n == "int"), ("str", n == "str"), ("list", n == "list"), ("tuple", n == "tuple")] → TyX X.K H1 x (.type t) → k (.d (.bool b)) S1 → rIsi X.K [x, .ty n] H1 Q := fun {t b} hm ht hq =>
    ⟨x, .ty n, _, _, b, rfl, .ty n, ht, kit_ty (kk _ hm), q _ _ ⟨m1, S1, _, e1, r1, .d (.bl _), hq⟩⟩
  cases w1 with
  | d d =>
    have h1 : k (.d (.bool (isT n d))) S1 := h1
    cases v1 with
    | d v =>
      cases v with
      | non =>
        refine fin (t := "NoneType") (b := false) (by simp) (.base .non) ?_
        have e : isT n .none = false := by
          have : n ≠ "NoneType" := fun z => by rw [z] at hk; exact absurd hk (by decide)
          simp [isT, this]
        rw [← e]
        exact h1
      | bl b => exact fin (b := n == "bool" || n == "int") (by simp) (.base (.bl b)) h1
      | int i => exact fin (b := n == "int") (by simp) (.base (.int i)) h1
      | str z => exact fin (b := n == "str") (by simp) (.base (.str z)) h1
      | lst a1 a2 a3 => exact fin (b := n == "list") (by simp) (.base (.lst a1)) h1
      | tup a1 a2 =>
        refine fin (t := "tuple") (b := n == "tuple") (by simp) ?_ h1
        rcases a1 with ⟨a1, _⟩ | a1
        · rcases a1 with a1 | ⟨o, a1⟩
          · exact .base (.tup a1)
          · exact .fTuple a1
        · rcases a1 with a1 | ⟨o, its, z, h1, h2, _⟩
          · rcases a1 with a1 | ⟨_, a1⟩ <;> cases a1
          · exact .kTuple h1 h2
  | s xs => exact h1.elim
  | r i =>
    have h1 : (match S1[i]? with
      | some (.lst _) => k (.d (.bool (n == "list"))) S1
      | _ => False) := h1
    split at h1
    · rename_i ys e
      obtain ⟨a, rfl, _, vs, h2, h3⟩ := v1.obj r1 e (by intro z; cases z)
      exact fin (b := n == "list") (by simp) (.base (.lst h2)) h1
    · exact h1.elim
end
end DL

set_option Elab.async false
set_option linter.all false
set_option maxRecDepth 100000
set_option maxHeartbeats 4000000
/-! DL6: targets, what is walked, statements, for, while. -/
namespace DL
open PySem PySem.Spec PyProof.Rows L2

/-! ### targets: a name by its slot, a tuple of targets -/
inductive Tg where
  | nm (i : Nat)
  | tp (ts : List Tg)
mutual
def Tg.g (K : PySem.W.Frag) : Tg → TG
  | .nm i => gName i
  | .tp ts => gTup K (Tg.len ts) (Tg.gs K ts)
def Tg.gs (K : PySem.W.Frag) : List Tg → TGs
  | [] => gNil
  | t :: ts => gCons (Tg.g K t) (Tg.gs K ts)
def Tg.len : List Tg → Nat
  | [] => 0
  | _ :: ts => Tg.len ts + 1
end
mutual
def Tg.w (t : Tg) (x : Val) (en : Env) : Option Env := match t with
  | .nm i => some (en.set i (some x))
  | .tp ts => match x with
    | .d (.tuple xs) => Tg.ws ts xs en
    | _ => none
def Tg.ws (ts : List Tg) (xs : List PyData) (en : Env) : Option Env := match ts, xs with
  | [], [] => some en
  | t :: ts, x :: xs => match Tg.w t (.d x) en with
    | some en' => Tg.ws ts xs en'
    | none => none
  | _, _ => none
end
mutual
def Tg.sl : Tg → List Nat
  | .nm i => [i]
  | .tp ts => Tg.sls ts
def Tg.sls : List Tg → List Nat
  | [] => []
  | t :: ts => Tg.sl t ++ Tg.sls ts
end
structure DG (X : Cx) (e : Expr) (t : Tg) : Prop where
  go : PG X e (t.g X.K)
structure DGs (X : Cx) (es : List Expr) (ts : List Tg) : Prop where
  go : PGs X es (Tg.gs X.K ts)
section
variable {X : Cx} {pos : Pos} {e : Expr} {es : List Expr} {t : Tg} {ts : List Tg}
theorem dg_nm {i : Nat} {x : Str} (hN : X.N.Nodup) (hi : X.N[i]? = some x) (hx : Loc X.env.scope x) (hf : X.fn x = true ∨ X.env.scope.names.lookup x = some .local := by first | exact .inl rfl | exact .inr rfl | assumption) : DG X (.Name x pos) (.nm i) := ⟨by unfold Tg.g; exact pg_name hN hi hx hf⟩
theorem dgs_nil : DGs X [] [] := ⟨by unfold Tg.gs; exact pgs_nil⟩
theorem dgs_cons (h : DG X e t) (hs : DGs X es ts) (ha : (assignEach (e :: es) X.env).map (·.2) = assign e X.env :: (assignEach es X.env).map (·.2) := by rfl) : DGs X (e :: es) (t :: ts) := ⟨by
  unfold Tg.gs
  exact pgs_cons h.go hs.go ha⟩
theorem dg_tp {k : Nat} (hc : X.calm = true) (h : DGs X es ts) (hn : (assignEach es X.env).length = Tg.len ts := by rfl) (hst : (assignEach es X.env).findIdx? (·.1) = none := by rfl) : DG X (.Tuple es k pos) (.tp ts) := ⟨by
  unfold Tg.g
  exact pg_tup hc h.go hn hst⟩
end
section
variable {K : PySem.W.Frag} {m : Ids} {H : Hp}
theorem REnv.set {st : L2.St} {en : Env} {i : Nat} {v : V} {w : Val} (g : REnv K m H st en) (r : RV K m H v w) : REnv K m H (st.set i (some v)) (en.set i (some w)) := by
  refine ⟨by simp [g.len], fun j w' e => ?_⟩
  by_cases hj : j = i
  · subst hj
    by_cases hl : j < en.length
    · rw [List.getElem?_set_self hl] at e
      cases e
      exact ⟨v, by rw [List.getElem?_set_self (by rw [g.len]; exact hl)], r⟩
    · rw [List.set_eq_of_length_le (by omega)] at e
      exact absurd (List.getElem?_eq_some_iff.mp e).1 hl
  · rw [List.getElem?_set_ne (Ne.symm hj)] at e
    obtain ⟨v', h1, h2⟩ := g.at_ j w' e
    exact ⟨v', by rw [List.getElem?_set_ne (Ne.symm hj)]; exact h1, h2⟩
theorem wipe_set {st : L2.St} {i : Nat} {x : Option V} : ∀ {vs : List Nat}, i ∈ vs → wipe (st.set i x) vs = wipe st vs
  | v :: vs, h => by
    unfold wipe
    by_cases hv : i ∈ vs
    · rw [wipe_set hv]
    · have e : i = v := by
        rcases List.mem_cons.mp h with h | h
        · exact h
        · exact absurd h hv
      subst e
      have key : ∀ (vs : List Nat), i ∉ vs → wipe (st.set i x) vs = (wipe st vs).set i x := by
        intro vs
        induction vs with
        | nil => intro _; rfl
        | cons u us ih =>
          intro hu
          have hu' : i ≠ u := fun z => hu (by rw [z]; exact List.mem_cons_self)
          unfold wipe
          rw [ih (fun z => hu (List.mem_cons_of_mem _ z)), List.set_comm _ _ hu']
      rw [key vs hv, List.set_set]
mutual
theorem Tg.run : ∀ (t : Tg) (v : V) (x : Val) (st : L2.St) (en en' : Env) (Q : L2.St → Hp → Prop), RV K m H v x → REnv K m H st en → t.w x en = some en' →
    (∀ st', REnv K m H st' en' → (∀ vs, (∀ i ∈ t.sl, i ∈ vs) → wipe st' vs = wipe st vs) → Q st' H) → t.g K v st H Q
  | .nm i, v, x, st, en, en', Q, r, g, e, q => by
    unfold Tg.w at e
    cases e
    unfold Tg.g
    refine q _ (g.set r) fun vs h => ?_
    exact wipe_set (h i (by unfold Tg.sl; exact List.mem_cons_self))
  | .tp ts, v, x, st, en, en', Q, r, g, e, q => by
    unfold Tg.w at e
    split at e
    · rename_i xs
      cases r with
      | d r =>
        obtain ⟨a, us, rfl, h1, h2⟩ := r.tup_inv
        unfold Tg.g
        obtain ⟨h3, h4⟩ := Tg.runs ts us xs st en en' Q h2 g e fun st' g' hw => q st' g' fun vs h => hw vs (by unfold Tg.sl at h; exact h)
        exact ⟨a, us, rfl, h1, h3, h4⟩
    · cases e
theorem Tg.runs : ∀ (ts : List Tg) (us : List V) (xs : List PyData) (st : L2.St) (en en' : Env) (Q : L2.St → Hp → Prop), RDs K m H us xs → REnv K m H st en → Tg.ws ts xs en = some en' →
    (∀ st', REnv K m H st' en' → (∀ vs, (∀ i ∈ Tg.sls ts, i ∈ vs) → wipe st' vs = wipe st vs) → Q st' H) → us.length = Tg.len ts ∧ Tg.gs K ts us st H Q
  | [], us, xs, st, en, en', Q, r, g, e, q => by
    unfold Tg.ws at e
    split at e
    · cases e
      cases r
      unfold Tg.gs
      exact ⟨rfl, rfl, q st g fun _ _ => rfl⟩
    · rename_i h
      cases h
    · cases e
  | t :: ts, us, xs, st, en, en', Q, r, g, e, q => by
    unfold Tg.ws at e
    split at e
    · rename_i h
      cases h
    · rename_i t' ts' x xs h
      cases h
      split at e
      · rename_i en1 e1
        cases r with
        | cons r rs =>
          rename_i v vs
          unfold Tg.gs Tg.len
          have key : ∀ st1, REnv K m H st1 en1 → (∀ vs, (∀ i ∈ t.sl, i ∈ vs) → wipe st1 vs = wipe st vs) → vs.length = Tg.len ts ∧ Tg.gs K ts vs st1 H Q := fun st1 g1 w1 =>
            Tg.runs ts vs xs st1 en1 en' Q rs g1 e fun st' g' hw => q st' g' fun us h => by
              unfold Tg.sls at h
              rw [hw us fun i hi => h i (List.mem_append_right _ hi), w1 us fun i hi => h i (List.mem_append_left _ hi)]
          have hl : vs.length = Tg.len ts := by
            have z : ∀ (ts : List Tg) (xs : List PyData) (en en' : Env), Tg.ws ts xs en = some en' → xs.length = Tg.len ts := by
              intro ts
              induction ts with
              | nil =>
                intro xs en en' h
                unfold Tg.ws at h
                split at h
                · rfl
                · rename_i q
                  cases q
                · cases h
              | cons t ts ih =>
                intro xs en en' h
                unfold Tg.ws at h
                split at h
                · rename_i q
                  cases q
                · rename_i q
                  cases q
                  split at h
                  · unfold Tg.len
                    rw [List.length_cons, ih _ _ _ h]
                  · cases h
                · cases h
            rw [rs.length]
            exact z _ _ _ _ e
          exact ⟨by rw [List.length_cons, hl], v, vs, rfl, Tg.run t v (.d x) st en en1 _ (.d r) g e1 fun st1 g1 w1 => (key st1 g1 w1).2⟩
      · cases e
    · cases e
end
end

/-! ### statements -/
section
variable {X : Cx} {st st2 : Stmt} {rest body orelse : List Stmt} {F G : WS} {e c : Expr} {Fe : WE} {Tc : WT} {pos : Pos}
def wSkip : WS := fun _ dn en S => dn.nx en S
def wSeq (F G : WS) : WS := fun W dn en S => F W ⟨G W dn, dn.rt, dn.bk, dn.ct⟩ en S
theorem dss_nil : DSs X [] wSkip := ⟨fun B W tk => ⟨fun pins s st H Dn I ⟨m, en, S, dn, g, f, q1, q2, q3, q4⟩ => (pss_nil (X := X)).run pins s st H Dn I (q1 _ _ ⟨m, S, en, Ext.refl, g.rel, g.env, f⟩)⟩⟩
theorem dss_cons (h1 : DS X st F) (h2 : DSs X rest G) : DSs X (st :: rest) (wSeq F G) := by
  refine ⟨fun B W tk => ⟨fun pins s st H Dn I ⟨m, en, S, dn, g, f, q1, q2, q3, q4⟩ => (pss_cons (h1.go B W tk) (h2.go B W tk)).run pins s st H Dn I ⟨m, en, S, _, g, f, fun st' H' p => ?_, q2, q3, q4⟩⟩⟩
  obtain ⟨m', S', en', e', r', g', f'⟩ := p
  exact ⟨m', en', S', dn, ⟨g.ex.trans e', r', g'⟩, f', fun st' H' p => q1 st' H' (p.tr e'), fun v H' p => q2 v H' (p.tr e'), fun st' H' p => q3 st' H' (p.tr e'), fun st' H' p => q4 st' H' (p.tr e')⟩
theorem dss_one (h1 : DS X st F) : DSs X [st] F := ⟨fun B W tk => pss_one (h1.go B W tk)⟩
def wPass : WS := wSkip
theorem ds_pass : DS X (.Pass pos) wSkip := ⟨fun B W tk => ⟨fun pins s st H Dn I ⟨m, en, S, dn, g, f, q1, q2, q3, q4⟩ => (ps_pass (X := X)).run pins s st H Dn I (q1 _ _ ⟨m, S, en, Ext.refl, g.rel, g.env, f⟩)⟩⟩
def wBrk : WS := fun _ dn en S => dn.bk en S
def wCnt : WS := fun _ dn en S => dn.ct en S
theorem ds_break : DS X (.Break pos) wBrk := ⟨fun B W tk => ⟨fun pins s st H Dn I ⟨m, en, S, dn, g, f, q1, q2, q3, q4⟩ => (ps_break (X := X)).run pins s st H Dn I (q3 _ _ ⟨m, S, en, Ext.refl, g.rel, g.env, f⟩)⟩⟩
theorem ds_continue : DS X (.Continue pos) wCnt := ⟨fun B W tk => ⟨fun pins s st H Dn I ⟨m, en, S, dn, g, f, q1, q2, q3, q4⟩ => (ps_continue (X := X)).run pins s st H Dn I (q4 _ _ ⟨m, S, en, Ext.refl, g.rel, g.env, f⟩)⟩⟩
def wExpr (Fe : WE) : WS := fun W dn en S => Fe W en S fun _ S1 => dn.nx en S1
theorem ds_expr (he : DE X e Fe) (hs : swapsWith e none pos.line X.env = pure false := by rfl) : DS X (.Expr e pos) (wExpr Fe) := by
  refine ⟨fun B W tk => ⟨fun pins s st H Dn I ⟨m, en, S, dn, g, f, q1, q2, q3, q4⟩ => (ps_expr (he.go B W tk) hs).run pins s st H Dn I ⟨m, en, S, _, g, f, fun v H' p => ?_⟩⟩⟩
  obtain ⟨m', S', w, e', r', v', f'⟩ := p
  exact q1 _ _ ⟨m', S', en, e', r', g.env.mono e', f'⟩
def wRet (Fe : WE) : WS := fun W dn en S => Fe W en S dn.rt
theorem ds_ret (he : DE X e Fe) : DS X (.Return (some e) pos) (wRet Fe) :=
  ⟨fun B W tk => ⟨fun pins s st H Dn I ⟨m, en, S, dn, g, f, q1, q2, q3, q4⟩ => (ps_ret (he.go B W tk)).run pins s st H Dn I ⟨m, en, S, _, g, f, q2⟩⟩⟩
def wIf (T : WT) (F G : WS) : WS := fun W dn en S => T W en S fun b S1 => if b = true then F W dn en S1 else G W dn en S1
theorem ds_if {c : Expr} {a b : List Stmt} (hc : DT X c Tc) (ha : DSs X a F) (hb : DSs X b G) : DS X (.If c a b pos) (wIf Tc F G) := by
  refine ⟨fun B W tk => ⟨fun pins s st H Dn I ⟨m, en, S, dn, g, f, q1, q2, q3, q4⟩ => (ps_if (hc.go B W tk) (ha.go B W tk) (hb.go B W tk)).run pins s st H Dn I ⟨m, en, S, _, g, f, fun b H' p => ?_⟩⟩⟩
  obtain ⟨m', S', e', r', f'⟩ := p
  cases b with
  | true => exact ⟨m', en, S', dn, g.next e' r', f', fun st' H' p => q1 st' H' (p.tr e'), fun v H' p => q2 v H' (p.tr e'), fun st' H' p => q3 st' H' (p.tr e'), fun st' H' p => q4 st' H' (p.tr e')⟩
  | false => exact ⟨m', en, S', dn, g.next e' r', f', fun st' H' p => q1 st' H' (p.tr e'), fun v H' p => q2 v H' (p.tr e'), fun st' H' p => q3 st' H' (p.tr e'), fun st' H' p => q4 st' H' (p.tr e')⟩
def wSet (i : Nat) (Fe : WE) : WS := fun W dn en S => Fe W en S fun w S1 => dn.nx (en.set i (some w)) S1
theorem ds_set {i : Nat} {x : Str} {pos' : Pos} (hN : X.N.Nodup) (hi : X.N[i]? = some x) (hx : Loc X.env.scope x) (he : DE X e Fe) (hs : swapsWith e (some (.Name x pos')) pos.line X.env = pure false := by rfl) (hf : X.fn x = true ∨ X.env.scope.names.lookup x = some .local := by first | exact .inl rfl | exact .inr rfl | assumption) :
    DS X (.Assign [.Name x pos'] e pos) (wSet i Fe) := by
  refine ⟨fun B W tk => ⟨fun pins s st H Dn I ⟨m, en, S, dn, g, f, q1, q2, q3, q4⟩ => (ps_set hN hi hx (he.go B W tk) hs hf).run pins s st H Dn I ⟨m, en, S, _, g, f, fun v H' p => ?_⟩⟩⟩
  obtain ⟨m', S', w, e', r', v', f'⟩ := p
  exact q1 _ _ ⟨m', S', _, e', r', (g.env.mono e').set v', f'⟩
def wAsg (t : Tg) (Fe : WE) : WS := fun W dn en S => Fe W en S fun w S1 => match t.w w en with
  | some en' => dn.nx en' S1
  | none => False
theorem ds_asg {tg : Expr} {t : Tg} (he : DE X e Fe) (hg : DG X tg t) (hs : swapsWithSole [tg] e pos.line X.env = pure false := by rfl) (hw : swappedStores [tg] e X.env = pure none := by rfl)
    (h1 : (assignEach [tg] X.env).map (·.2) = [assign tg X.env] := by rfl) : DS X (.Assign [tg] e pos) (wAsg t Fe) := by
  refine ⟨fun B W tk => ⟨fun pins s st H Dn I ⟨m, en, S, dn, g, f, q1, q2, q3, q4⟩ => (ps_asg (he.go B W tk) hg.go hs hw h1).run pins s st H Dn I ⟨m, en, S, _, g, f, fun v H' p => ?_⟩⟩⟩
  obtain ⟨m', S', w, e', r', v', f'⟩ := p
  split at f'
  · rename_i en' ee
    exact Tg.run t v w st en en' _ v' (g.env.mono e') ee fun st' g' _ => q1 _ _ ⟨m', S', en', e', r', g', f'⟩
  · exact f'.elim
/-- a, b = x, y | a, b, c = x, y, z with plain local names -/
def wPar (is : List Nat) (G : WA) : WS := fun W dn en S => G W en S fun ws S1 => ws.length = is.length ∧ dn.nx ((is.zip ws).foldl (fun e p => e.set p.1 (some p.2)) en) S1
theorem ds_par {i j : Nat} {x y : Str} {a b : Expr} {G : WA} {px py pt : Pos} {kt k2 pt2} (hc : X.calm = true) (hN : X.N.Nodup) (hi : X.N[i]? = some x) (hj : X.N[j]? = some y) (hij : i ≠ j)
    (hx : X.env.scope.names.lookup x = some .local) (hy : X.env.scope.names.lookup y = some .local) (ha : DA X [a, b] G)
    (hw : swappedStores [.Tuple [.Name x px, .Name y py] kt pt] (.Tuple [a, b] k2 pt2) X.env = pure (some [x, y]))
    (hs : swapsWithSole [.Tuple [.Name x px, .Name y py] kt pt] (.Tuple [a, b] k2 pt2) pos.line X.env = pure false := by rfl) :
    DS X (.Assign [.Tuple [.Name x px, .Name y py] kt pt] (.Tuple [a, b] k2 pt2) pos) (wPar [i, j] G) := by
  refine ⟨fun B W tk => ⟨fun pins s st H Dn I ⟨m, en, S, dn, g, f, q1, q2, q3, q4⟩ => (ps_par hc hN hi hj hij hx hy (ha.go B W tk) hw hs).run pins s st H Dn I ⟨m, en, S, _, g, f, fun v H' p => ?_⟩⟩⟩
  obtain ⟨m', S', ws, e', r', v', hl, f'⟩ := p
  cases v' with
  | nil => cases hl
  | cons v1 t =>
    cases t with
    | nil => cases hl
    | cons v2 t =>
      cases t with
      | nil => exact ⟨_, _, rfl, q1 _ _ ⟨m', S', _, e', r', ((g.env.mono e').set v1).set v2, f'⟩⟩
      | cons _ _ => cases hl
theorem ds_par3 {i j l : Nat} {x y z : Str} {a b c : Expr} {G : WA} {px py pz pt : Pos} {kt k2 pt2} (hc : X.calm = true) (hN : X.N.Nodup) (hi : X.N[i]? = some x) (hj : X.N[j]? = some y) (hl : X.N[l]? = some z) (hij : i ≠ j) (hil : i ≠ l) (hjl : j ≠ l)
    (hx : X.env.scope.names.lookup x = some .local) (hy : X.env.scope.names.lookup y = some .local) (hz : X.env.scope.names.lookup z = some .local) (ha : DA X [a, b, c] G)
    (hw : swappedStores [.Tuple [.Name x px, .Name y py, .Name z pz] kt pt] (.Tuple [a, b, c] k2 pt2) X.env = pure (some [x, y, z]))
    (hs : swapsWithSole [.Tuple [.Name x px, .Name y py, .Name z pz] kt pt] (.Tuple [a, b, c] k2 pt2) pos.line X.env = pure false := by rfl) :
    DS X (.Assign [.Tuple [.Name x px, .Name y py, .Name z pz] kt pt] (.Tuple [a, b, c] k2 pt2) pos) (wPar [i, j, l] G) := by
  refine ⟨fun B W tk => ⟨fun pins s st H Dn I ⟨m, en, S, dn, g, f, q1, q2, q3, q4⟩ => (ps_par3 hc hN hi hj hl hij hil hjl hx hy hz (ha.go B W tk) hw hs).run pins s st H Dn I ⟨m, en, S, _, g, f, fun v H' p => ?_⟩⟩⟩
  obtain ⟨m', S', ws, e', r', v', hl, f'⟩ := p
  cases v' with
  | nil => cases hl
  | cons v1 t =>
    cases t with
    | nil => cases hl
    | cons v2 t =>
      cases t with
      | nil => cases hl
      | cons v3 t =>
        cases t with
        | nil => exact ⟨_, _, _, rfl, q1 _ _ ⟨m', S', _, e', r', (((g.env.mono e').set v1).set v2).set v3, f'⟩⟩
        | cons _ _ => cases hl
/-- x[i] = e of a list or dict by its number -/
def putW (kvs : List (Key × Val)) (k : Key) (v : Val) : List (Key × Val) := if (kvs.any fun kv => decide (kv.1 = k)) = true then kvs.map (fun kv => if kv.1 = k then (kv.1, v) else kv) else kvs ++ [(k, v)]
def vStore (o i v : Val) (S : Sto) (k : Sto → Prop) : Prop := match o with
  | .r a => match S[a]? with
    | some (.lst ws) => match i with
      | .d (.int j) => match itm (List.range ws.length) j with
        | some n => k (S.set a (.lst (ws.set n v)))
        | none => False
      | _ => False
    | some (.dct kvs) => match keyW i with
      | some key => kvs.length < 1000000 ∧ k (S.set a (.dct (putW kvs key v)))
      | none => False
    | _ => False
  | _ => False
def rSetLD : V → V → V → Hp → (Hp → Prop) → Prop := fun o i v H Q => rSetL o i v H Q ∨ ∃ a H', o = .ref a ∧ DPut H a i v H' ∧ Q H'
theorem set_listdict (hu : X.A.units + 1 < cLine) : PSet X rSetLD := by
  intro pins s st H o i v ov iv u Q I r1 r2 r3 h
  rcases h with h | ⟨a, H', rfl, g, q⟩
  · exact set_list pins s st H o i v ov iv u Q I r1 r2 r3 h
  · cases r1
    exact d_setItem hu I g r2 r3 fun s4 I4 => ⟨H', I4, q⟩
abbrev PR (K : PySem.W.Frag) (m : Ids) (H : Hp) : List (Key × V) → List (Key × Val) → Prop := Paired (fun (p : Key × V) (q : Key × Val) => p.1 = q.1 ∧ RV K m H p.2 q.2)
theorem PR.map {K : PySem.W.Frag} {m : Ids} {H : Hp} (k : Key) {v : V} {w : Val} (r : RV K m H v w) : ∀ {vs : List (Key × V)} {kvs : List (Key × Val)}, PR K m H vs kvs →
    PR K m H (vs.map fun kv => if kv.1 = k then (kv.1, v) else kv) (kvs.map fun kv => if kv.1 = k then (kv.1, w) else kv)
  | _, _, .nil => .nil
  | p :: vs, q :: kvs, .cons h t => by
    refine .cons ?_ (PR.map k r t)
    dsimp only
    by_cases e : q.1 = k
    · rw [if_pos (h.1.trans e), if_pos e]
      exact ⟨h.1, r⟩
    · rw [if_neg (fun z => e (h.1.symm.trans z)), if_neg e]
      exact h
theorem PR.app {K : PySem.W.Frag} {m : Ids} {H : Hp} : ∀ {as bs : List (Key × V)} {cs ds : List (Key × Val)}, PR K m H as cs → PR K m H bs ds → PR K m H (as ++ bs) (cs ++ ds)
  | _, _, _, _, .nil, h => h
  | _, _, _, _, .cons h t, h' => .cons h (PR.app t h')
theorem PR.any {K : PySem.W.Frag} {m : Ids} {H : Hp} (k : Key) : ∀ {vs : List (Key × V)} {kvs : List (Key × Val)}, PR K m H vs kvs → (vs.any fun kv => decide (kv.1 = k)) = (kvs.any fun kv => decide (kv.1 = k))
  | _, _, .nil => rfl
  | p :: vs, q :: kvs, .cons h t => by rw [List.any_cons, List.any_cons, PR.any k t, h.1]
theorem putW_rel {K : PySem.W.Frag} {m : Ids} {H : Hp} (k : Key) {v : V} {w : Val} (r : RV K m H v w) {vs : List (Key × V)} {kvs : List (Key × Val)} (h : PR K m H vs kvs) : PR K m H (putK vs k v) (putW kvs k w) := by
  unfold putK putW
  rw [PR.any k h]
  split
  · exact PR.map k r h
  · exact PR.app h (.cons ⟨rfl, r⟩ .nil)
theorem range_itm {n : Nat} {j : Int} {k : Nat} (h : itm (List.range n) j = some k) : ixN n j = some k := by
  have e := itm_at h
  unfold atI at e
  rw [List.length_range] at e
  cases q : ixN n j with
  | none => rw [q] at e; cases e
  | some i =>
    rw [q] at e
    have e2 : (List.range n)[i]? = some k := e
    have hi := (List.getElem?_eq_some_iff.mp e2).1
    rw [List.length_range] at hi
    rw [List.getElem?_eq_getElem (by simpa using hi)] at e2
    simp at e2
    rw [e2]
def wStore (Fo Fi Fv : WE) : WS := fun W dn en S => Fv W en S fun v S1 => Fo W en S1 fun o S2 => Fi W en S2 fun i S3 => vStore o i v S3 fun S4 => dn.nx en S4
theorem vStore_ok {K : PySem.W.Frag} {m : Ids} {H : Hp} {S : Sto} {o i v : V} {wo wi wv : Val} {k : Sto → Prop} {Q : Hp → Prop} (r : Rel K m H S) (vo : RV K m H o wo) (vi : RV K m H i wi) (vv : RV K m H v wv) (h : vStore wo wi wv S k)
    (q : ∀ H' S', Ext m H m H' → Rel K m H' S' → k S' → Q H') : rSetLD o i v H Q := by
  unfold vStore at h
  split at h
  · rename_i a
    split at h
    · rename_i ws e
      obtain ⟨p, rfl, hp, vs, h1, h2⟩ := vo.obj r e (by intro z; cases z)
      split at h
      · rename_i j
        split at h
        · rename_i n en
          refine .inl ⟨p, vs, j, n, rfl, int_inv vi, h1, by rw [h2.length]; exact range_itm en, ?_⟩
          have E : Ext m H m (upd H p (.lst (vs.set n v))) := Ext.set hp
          have ro : RO K m (upd H p (.lst (vs.set n v))) (some p) (.lst (ws.set n wv)) := ⟨_, upd_same, RVs.set (vv.mono E) n (RVs.mono E h2)⟩
          exact q _ _ E (r.set hp ro (fun u hu φ z => by rw [h1] at hu; cases hu; cases z)) h
        · exact h.elim
      · exact h.elim
    · rename_i kvs e
      obtain ⟨p, rfl, hp, vs, h1, h2⟩ := vo.obj r e (by intro z; cases z)
      split at h
      · rename_i key ek
        have E : Ext m H m (upd H p (.dK (putK vs key v))) := Ext.set hp
        have ro : RO K m (upd H p (.dK (putK vs key v))) (some p) (.dct (putW kvs key wv)) := ⟨_, upd_same, putW_rel key (vv.mono E) (pair_mono E h2)⟩
        refine .inr ⟨p, _, rfl, ?_, q _ _ E (r.set hp ro (fun u hu φ z => by rw [h1] at hu; cases hu; cases z)) h.2⟩
        rw [keyW_rel vi ek]
        exact DPut.k h1 (by rw [Paired.length h2]; exact line6' h.1)
      · exact h.elim
    · exact h.elim
  · exact h.elim
theorem ds_store {o i v : Expr} {Fo Fi Fv : WE} {pos' : Pos} (hu : X.A.units + 1 < cLine) (ho : DE X o Fo) (hi : DE X i Fi) (hv : DE X v Fv) (hs : swapsWithSole [.Subscript o i pos'] v pos.line X.env = pure false := by rfl) (hw : swappedStores [.Subscript o i pos'] v X.env = pure none := by rfl)
    (h1 : (assignEach [.Subscript o i pos'] X.env).map (·.2) = [assign (.Subscript o i pos') X.env] := by rfl)
    (ha : ∀ v, assign (.Subscript o i pos') X.env v = (do
      let ov ← holding [v] (eval o X.env)
      let iv ← holding [v, ov] (eval i X.env)
      standAt pos'
      holding [v, ov, iv] (setItem ov iv v)
      release [v, ov, iv] []) := by intro _; rfl) : DS X (.Assign [.Subscript o i pos'] v pos) (wStore Fo Fi Fv) := by
  refine ⟨fun B W tk => ⟨fun pins s st H Dn I ⟨m, en, S, dn, g, f, q1, q2, q3, q4⟩ => (ps_asg (hv.go B W tk) (pg_sub (ho.go B W tk) (hi.go B W tk) (set_listdict hu) ha) hs hw h1).run pins s st H Dn I ⟨m, en, S, _, g, f, fun v1 H1 p1 => ?_⟩⟩⟩
  obtain ⟨m1, S1, w1, e1, r1, v1', f1⟩ := p1
  refine ⟨m1, en, S1, _, g.next e1 r1, f1, fun o2 H2 p2 => ?_⟩
  obtain ⟨m2, S2, w2, e2, r2, v2', f2⟩ := p2
  refine ⟨m2, en, S2, _, (g.next e1 r1).next e2 r2, f2, fun o3 H3 p3 => ?_⟩
  obtain ⟨m3, S3, w3, e3, r3, v3', f3⟩ := p3
  refine vStore_ok r3 (v2'.mono e3) v3' ((v1'.mono e2).mono e3) f3 fun H' S' E R k => q1 _ _ ⟨m3, S', en, ((e1.trans e2).trans e3).trans E, R, (((g.env.mono e1).mono e2).mono e3).mono E, k⟩
/-- name op= e -/
def wAug (i : Nat) (Fe : WE) (r : R2D) : WS := fun W dn en S => match (en[i]?).join with
  | some x => Fe W en S fun y S1 => r x y S1 fun z S2 => dn.nx (en.set i (some z)) S2
  | none => False
theorem ds_aug {i : Nat} {x : Str} {op : Operator} {r : R2D} {pos' : Pos} (hN : X.N.Nodup) (hi : X.N[i]? = some x) (hx : Loc X.env.scope x) (he : DE X e Fe) {r2 : R2} (ho : OpR X (inplaceOp op) r2) (l : Lift2 X.K r2 r) (hf : X.fn x = true ∨ X.env.scope.names.lookup x = some .local := by first | exact .inl rfl | exact .inr rfl | assumption) :
    DS X (.AugAssign (.Name x pos') op e pos) (wAug i Fe r) := by
  refine ⟨fun B W tk => ⟨fun pins s st H Dn I ⟨m, en, S, dn, g, f, q1, q2, q3, q4⟩ => (ps_aug hN hi hx (he.go B W tk) (ti := fun x y H Q => r2 x y H Q) ho hf).run pins s st H Dn I ?_⟩⟩
  unfold wAug at f
  cases ei : (en[i]?).join with
  | none =>
    rw [ei] at f
    exact f.elim
  | some w =>
    rw [ei] at f
    obtain ⟨v, h1, h2⟩ := g.env.at_ i w (join_some ei)
    refine ⟨v, h1, m, en, S, _, g, f, fun y H1 p1 => ?_⟩
    obtain ⟨m1, S1, w1, e1, r1, v1, f1⟩ := p1
    refine l H1 v y _ m1 S1 w w1 _ r1 (h2.mono e1) v1 f1 fun z H2 p2 => ?_
    obtain ⟨m2, S2, w2, e2, r2', v2, f2⟩ := p2
    exact q1 _ _ ⟨m2, S2, _, e1.trans e2, r2', ((g.env.mono e1).mono e2).set v2, f2⟩
end
end DL

set_option Elab.async false
set_option linter.all false
set_option maxRecDepth 100000
set_option maxHeartbeats 4000000
/-! DL7: what is walked, for, while, comprehensions, calls of own defs. -/
namespace DL
open PySem PySem.Spec PyProof.Rows L2

abbrev KI := List Val → (Sto → Prop) → Sto → Prop
abbrev WI := XQ → Env → Sto → KI → Prop
/-- the iterator J gives the items ws, as long as ok holds of the store -/
def ItOk (K : PySem.W.Frag) (m : Ids) (H : Hp) (J : It) (ws : List Val) (ok : Sto → Prop) : Prop := ∀ (m1 : Ids) (H1 : Hp) (S1 : Sto), Exo m H m1 H1 → Rel K m1 H1 S1 → ok S1 → ∀ i : Nat,
  (∀ w, ws[i]? = some w → J.go i H1 ∧ ∀ x H2, J.yld i H1 x H2 → ∃ m2, m2 = m1 ∧ Ext m1 H1 m2 H2 ∧ Rel K m2 H2 S1 ∧ RV K m2 H2 x w) ∧ (ws.length ≤ i → J.stop i H1)
def PostI (K : PySem.W.Frag) (m : Ids) (H : Hp) (k : KI) (J : It) (H' : Hp) : Prop := ∃ m' S' ws ok, Ext m H m' H' ∧ Rel K m' H' S' ∧ ItOk K m' H' J ws ok ∧ k ws ok S'
def lI (K : PySem.W.Frag) (B : Bs) (F : WI) (W : XQ) : TI := fun st H R => ∃ m en S k, Stg K B m H S st en ∧ F W en S k ∧ ∀ J H', PostI K m H k J H' → R J H'
structure DI (X : Cx) (tg iter : Expr) (F : WI) : Prop where
  go : ∀ (B : Bs) (W : XQ), Takes X (lX X B W) → PI X tg iter (lI X.K B F W)
theorem PostI.tr {K : PySem.W.Frag} {m m1 : Ids} {H H1 H2 : Hp} {k : KI} {J : It} (e : Ext m H m1 H1) (h : PostI K m1 H1 k J H2) : PostI K m H k J H2 := let ⟨m', S', w, ok, a, b⟩ := h; ⟨m', S', w, ok, e.trans a, b⟩

/-! a list, a tuple, a text -/
section
variable {X : Cx} {tg e : Expr} {te : TE}
def iSeq (K : PySem.W.Frag) (te : TE) : TI := fun st H R => te st H fun x H1 => (∃ a, x = .ref a ∧ (∃ xs, SqL K H1 a xs) ∧ R (Itl K a) H1) ∨ (∃ a, x = .ref a ∧ (∃ xs, SqT K H1 a xs) ∧ R (Itt K a) H1) ∨ ∃ z, x = .str z ∧ R (Its z) H1
theorem pi_seq (he : PE X e te) : PI X tg e (iSeq X.K te) := by
  refine ⟨fun pins s st H R I h => thn (he.run pins s st H _ I h) fun v s1 ⟨y, H1, I1, r1, q1⟩ => ?_⟩
  rcases q1 with ⟨a, ey, ⟨xs, hq⟩, q⟩ | ⟨a, ey, ⟨xs, hq⟩, q⟩ | ⟨z, ey, q⟩
  · subst ey
    cases r1
    obtain ⟨its, _, p, _⟩ := I1.list hq
    exact wpAny_pyIter_list p.isList (pi_one (tk := s1.toks) I1 _ (turn_list a _) ⟨_, Heap.get?_push_size _ rfl, rfl, rfl⟩ q)
  · subst ey
    cases r1
    obtain ⟨its, _, p, _⟩ := I1.tuple hq
    exact wpAny_pyIter_tuple (show s1.heap.IsTuple a its.toArray from p) (pi_one (tk := s1.toks) I1 _ (turn_tuple a _) ⟨_, Heap.get?_push_size _ rfl, rfl, rfl⟩ q)
  · subst ey
    obtain ⟨t, rfl⟩ := r1
    cases ha : z.cps.all (· < 128)
    · exact wpAny_pyIter_wide ha (pi_one (tk := s1.toks) I1 _ (turn_str _ z t "str_iterator" (.inr rfl)) ⟨_, Heap.get?_push_size _ rfl, rfl, rfl⟩ q)
    · exact wpAny_pyIter_ascii ha (pi_one (tk := s1.toks) I1 _ (turn_str _ z t "str_ascii_iterator" (.inl rfl)) ⟨_, Heap.get?_push_size _ rfl, rfl, rfl⟩ q)
end
def signD (c : Nat) : Val := .d (.str ⟨#[c]⟩)
def vItSeq (w : Val) (S : Sto) (k : KI) : Prop := match w with
  | .d (.list xs) => k (xs.map Val.d) (fun _ => True) S
  | .d (.tuple xs) => k (xs.map Val.d) (fun _ => True) S
  | .d (.str z) => k (z.cps.toList.map signD) (fun _ => True) S
  | .s xs => k (xs.map Val.d) (fun _ => True) S
  | .r i => match S[i]? with
    | some (.lst ws) => k ws (fun S => S[i]? = some (.lst ws)) S
    | some (.ro ws) => k ws (fun S => S[i]? = some (.ro ws)) S
    | _ => False
  | _ => False
def wItSeq (F : WE) : WI := fun W en S k => F W en S fun w S1 => vItSeq w S1 k
section
variable {K : PySem.W.Frag} {m : Ids} {H : Hp} {S : Sto} {a : Addr}
theorem sqL_rd_inj {vs us : List V} (h : H a = some (.lst vs)) (h' : SqL K H a us) (hk : ∀ o, K.lookup a = some o → H a = none) : us = vs := by
  rcases h' with h' | ⟨o, _, _, e, _⟩
  · rcases h' with h' | ⟨o, h'⟩
    · rw [h] at h'
      cases h'
      rfl
    · rw [h] at h'
      cases h'
  · rw [hk o e] at h
    cases h
end
section
variable {X : Cx} {tg e : Expr} {F : WE}
/-- a list's items by an iterator over SqL -/
theorem itl_ok {K : PySem.W.Frag} {m : Ids} {H : Hp} {a : Addr} {ws : List Val} {ok : Sto → Prop} (h : ∀ (m1 : Ids) (H1 : Hp) (S1 : Sto), Exo m H m1 H1 → Rel K m1 H1 S1 → ok S1 → ∃ vs, SqL K H1 a vs ∧ RVs K m1 H1 vs ws) : ItOk K m H (Itl K a) ws ok := by
  intro m1 H1 S1 e r o i
  obtain ⟨vs, h1, h2⟩ := h m1 H1 S1 e r o
  refine ⟨fun w hw => ?_, fun hl => ⟨vs, h1, by rw [h2.length]; exact hl⟩⟩
  obtain ⟨v, g1, g2⟩ := h2.get hw
  refine ⟨⟨vs, v, h1, g1⟩, fun x H2 y => ?_⟩
  obtain ⟨e2, y⟩ := y
  subst e2
  have q := y vs h1
  rw [g1] at q
  cases q
  exact ⟨m1, rfl, Ext.refl, r, g2⟩
theorem itt_ok {K : PySem.W.Frag} {m : Ids} {H : Hp} {a : Addr} {ws : List Val} {ok : Sto → Prop} (h : ∀ (m1 : Ids) (H1 : Hp) (S1 : Sto), Exo m H m1 H1 → Rel K m1 H1 S1 → ok S1 → ∃ vs, SqT K H1 a vs ∧ RVs K m1 H1 vs ws) : ItOk K m H (Itt K a) ws ok := by
  intro m1 H1 S1 e r o i
  obtain ⟨vs, h1, h2⟩ := h m1 H1 S1 e r o
  refine ⟨fun w hw => ?_, fun hl => ⟨vs, h1, by rw [h2.length]; exact hl⟩⟩
  obtain ⟨v, g1, g2⟩ := h2.get hw
  refine ⟨⟨vs, v, h1, g1⟩, fun x H2 y => ?_⟩
  obtain ⟨e2, y⟩ := y
  subst e2
  have q := y vs h1
  rw [g1] at q
  cases q
  exact ⟨m1, rfl, Ext.refl, r, g2⟩
theorem vItSeq_ok {K : PySem.W.Frag} {m : Ids} {H : Hp} {S : Sto} {x : V} {w : Val} {k : KI} {R : It → Hp → Prop} (r : Rel K m H S) (v : RV K m H x w) (h : vItSeq w S k) (q : ∀ J H', PostI K m H k J H' → R J H') :
    (∃ a, x = .ref a ∧ (∃ xs, SqL K H a xs) ∧ R (Itl K a) H) ∨ (∃ a, x = .ref a ∧ (∃ xs, SqT K H a xs) ∧ R (Itt K a) H) ∨ ∃ z, x = .str z ∧ R (Its z) H := by
  have fin : ∀ {J : It} {ws : List Val} {ok : Sto → Prop}, ItOk K m H J ws ok → k ws ok S → R J H := fun {J ws ok} hi hk => q J H ⟨m, S, ws, ok, Ext.refl, r, hi, hk⟩
  unfold vItSeq at h
  split at h
  · rename_i xs
    cases v with
    | d v =>
      obtain ⟨a, vs, e, h1, h2⟩ : ∃ a vs, x = .ref a ∧ (H a = some (.lst vs) ∧ Fr m a) ∧ RDs K m H vs xs := by
        cases v with
        | lst h1 h2 h3 => exact ⟨_, _, rfl, ⟨h1, h2⟩, h3⟩
      exact .inl ⟨a, e, ⟨vs, SqL.of h1.1⟩, fin (itl_ok fun m1 H1 S1 e r o => ⟨vs, SqL.of (e.keep _ _ h1.1 h1.2).1, (RDs.mox e h2).vals⟩) h⟩
  · rename_i xs
    cases v with
    | d v =>
      obtain ⟨a, vs, e, h1, h2⟩ : ∃ a vs, x = .ref a ∧ ((Rd H a (.tup vs) ∧ Fr m a) ∨ SqT K noH a vs) ∧ RDs K m H vs xs := by
        cases v with
        | tup h1 h2 => exact ⟨_, _, rfl, h1, h2⟩
      refine .inr (.inl ⟨a, e, ⟨vs, sqT_of h1⟩, fin (itt_ok fun m1 H1 S1 e r o => ⟨vs, ?_, (RDs.mox e h2).vals⟩) h⟩)
      rcases h1 with h1 | h1
      · exact sqT_of (.inl (rd_exo e h1.1 h1.2))
      · exact sqT_of (m := m) (.inr h1)
  · rename_i z
    refine .inr (.inr ⟨z, str_inv v, fin (fun m1 H1 S1 e r o i => ⟨fun w hw => ?_, fun hl => by
      have z1 : z.cps.size ≤ i := by simpa using hl
      exact z1⟩) h⟩)
    rw [List.getElem?_map] at hw
    cases ec : z.cps.toList[i]? with
    | none =>
      rw [ec] at hw
      cases hw
    | some c =>
      rw [ec] at hw
      cases hw
      have hi : i < z.cps.size := by
        have := (List.getElem?_eq_some_iff.mp ec).1
        simpa using this
      refine ⟨hi, fun x H2 y => ?_⟩
      obtain ⟨e2, c', e3, e4⟩ := y
      subst e2 e4
      have e5 : c = c' := by
        rw [← Array.getElem?_toList, ec] at e3
        exact Option.some.inj e3
      subst e5
      exact ⟨m1, rfl, Ext.refl, r, .d (.str _)⟩
  · rename_i xs
    cases v with
    | s h1 h2 =>
      rename_i a vs
      refine .inl ⟨a, rfl, ⟨vs, sqL_of h1⟩, fin (itl_ok fun m1 H1 S1 e r o => ⟨vs, ?_, (RDs.mox e h2).vals⟩) h⟩
      rcases h1 with h1 | h1
      · exact sqL_of (.inl (rd_exo e h1.1 h1.2))
      · exact sqL_of (m := m) (.inr h1)
  · rename_i i
    split at h
    · rename_i ws ew
      obtain ⟨a, e, hm, vs, h1, h2⟩ := v.obj r ew (by intro z; cases z)
      refine .inl ⟨a, e, ⟨vs, SqL.of h1⟩, fin (itl_ok fun m1 H1 S1 e r o => ?_) h⟩
      rcases e.ids i _ hm with h3 | h3
      · obtain ⟨vs1, g1, g2⟩ := r.ob i _ _ h3 o
        exact ⟨vs1, SqL.of g1, g2⟩
      · have q := r.dd i h3
        rw [o] at q
        cases q
    · rename_i ws ew
      obtain ⟨a, e, hm, vs, h1, h2⟩ := v.obj r ew (by intro z; cases z)
      refine .inl ⟨a, e, ⟨vs, h1⟩, fin (itl_ok fun m1 H1 S1 e r o => ?_) h⟩
      rcases e.ids i _ hm with h3 | h3
      · obtain ⟨vs1, g1, g2⟩ := r.ob i _ _ h3 o
        exact ⟨vs1, g1, g2⟩
      · have q := r.dd i h3
        rw [o] at q
        cases q
    · exact h.elim
  · exact h.elim
theorem di_seq (he : DE X e F) : DI X tg e (wItSeq F) := by
  refine ⟨fun B W tk => ⟨fun pins s st H R I ⟨m, en, S, k, g, f, q⟩ => (pi_seq (he.go B W tk)).run pins s st H R I ⟨m, en, S, _, g, f, fun x H1 p1 => ?_⟩⟩⟩
  obtain ⟨m1, S1, w1, e1, r1, v1, h1⟩ := p1
  exact vItSeq_ok r1 v1 h1 fun J H' p => q J H' (p.tr e1)
/-! range -/
def rgL (a b : Int) : List Val := (List.range (b - a).toNat).map fun i => Val.d (.int (a + (i : Nat)))
def wRng1 (F : WE) : WI := fun W en S k => F W en S fun w S1 => match w with
  | .d (.int n) => n ≤ 1000000 ∧ -1000000 ≤ n ∧ k (rgL 0 n) (fun _ => True) S1
  | _ => False
def wRng2 (F G : WE) : WI := fun W en S k => F W en S fun w S1 => G W en S1 fun z S2 => match w, z with
  | .d (.int a), .d (.int b) => (a ≤ 1000000 ∧ -1000000 ≤ a ∧ b ≤ 1000000 ∧ -1000000 ≤ b) ∧ k (rgL a b) (fun _ => True) S2
  | _, _ => False
theorem itr_ok {K : PySem.W.Frag} {m : Ids} {H : Hp} {a b : Int} : ItOk K m H (Itr a (b - a).toNat) (rgL a b) (fun _ => True) := by
  intro m1 H1 S1 e r o i
  refine ⟨fun w hw => ?_, fun hl => ?_⟩
  · unfold rgL at hw
    rw [List.getElem?_map] at hw
    by_cases hi : i < (b - a).toNat
    · rw [List.getElem?_range hi] at hw
      cases hw
      refine ⟨hi, fun x H2 y => ?_⟩
      obtain ⟨e2, e3⟩ := y
      subst e2 e3
      exact ⟨m1, rfl, Ext.refl, r, .d (.int _)⟩
    · rw [List.getElem?_eq_none (by simpa using hi)] at hw
      cases hw
  · have z1 : (b - a).toNat ≤ i := by simpa [rgL] using hl
    exact z1
theorem di_range1 {a : Expr} {p pos : Pos} (hg : Gl X "range") (hm : X.mg "range" = none) (ha : DE X a F) (hs : starEach [a] X.env = [(false, eval a X.env)] := by rfl) : DI X tg (.Call (.Name "range" p) [a] [] pos) (wRng1 F) := by
  refine ⟨fun B W tk => ⟨fun pins s st H R I ⟨m, en, S, k, g, f, q⟩ => (pi_range1 hg hm (pa_cons (ha.go B W tk) pa_nil hs) hs).run pins s st H R I ⟨m, en, S, _, g, f, fun x H1 p1 => ?_⟩⟩⟩
  obtain ⟨m1, S1, w1, e1, r1, v1, h1⟩ := p1
  split at h1
  · rename_i n
    obtain ⟨a1, a2, h1⟩ := h1
    refine ⟨n, by rw [int_inv v1], by omega, by omega, q _ _ ⟨m1, S1, _, _, e1, r1, ?_, h1⟩⟩
    have z : n.toNat = (n - 0).toNat := by omega
    rw [z]
    exact itr_ok
  · exact h1.elim
theorem di_range2 {a b : Expr} {G : WE} {p pos : Pos} (hg : Gl X "range") (hm : X.mg "range" = none) (ha : DE X a F) (hb : DE X b G) (hs : starEach [a, b] X.env = [(false, eval a X.env), (false, eval b X.env)] := by rfl) (hs2 : starEach [b] X.env = [(false, eval b X.env)] := by rfl) : DI X tg (.Call (.Name "range" p) [a, b] [] pos) (wRng2 F G) := by
  refine ⟨fun B W tk => ⟨fun pins s st H R I ⟨m, en, S, k, g, f, q⟩ => (pi_range2 hg hm (pa_cons (ha.go B W tk) (pa_cons (hb.go B W tk) pa_nil hs2) (by rw [hs, hs2])) hs hs2).run pins s st H R I ⟨m, en, S, _, g, f, fun x H1 p1 => ?_⟩⟩⟩
  obtain ⟨m1, S1, w1, e1, r1, v1, h1⟩ := p1
  refine ⟨m1, en, S1, _, g.next e1 r1, h1, fun x2 H2 p2 => ?_⟩
  obtain ⟨m2, S2, w2, e2, r2, v2, h2⟩ := p2
  split at h2
  · rename_i a b
    obtain ⟨a1, h2⟩ := h2
    exact ⟨a, b, by rw [int_inv v1, int_inv v2], by omega, q _ _ ⟨m2, S2, _, _, e1.trans e2, r2, itr_ok, h2⟩⟩
  · exact h2.elim
end

/-! ### for -/
def wTurns (t : Tg) (body : WS) (ok : Sto → Prop) (W : XQ) (dn : DN) : List Val → Env → Sto → Prop
  | [], en, S => ok S ∧ dn.nx en S
  | w :: ws, en, S => ok S ∧ match t.w w en with
    | some en' => body W ⟨wTurns t body ok W dn ws, dn.rt, dn.nx, wTurns t body ok W dn ws⟩ en' S
    | none => False
def wFor (t : Tg) (I : WI) (body : WS) : WS := fun W dn en S => I W en S fun ws ok S1 => wTurns t body ok W dn ws en S1
section
variable {X : Cx} {tg iter : Expr} {body : List Stmt} {t : Tg} {F : WI} {G : WS} {pos : Pos}
theorem wTurns_ok {t : Tg} {body : WS} {ok : Sto → Prop} {W : XQ} {dn : DN} {ws : List Val} {en : Env} {S : Sto} (h : wTurns t body ok W dn ws en S) : ok S := by
  cases ws with
  | nil => exact h.1
  | cons w ws => exact h.1
theorem ds_for (hp : PassesOwn (model X.prog X.w) X.A X.env X.xe) (hc : X.calm = true) (hi : DI X tg iter F) (hg : DG X tg t) (hb : DSs X body G)
    (hs : ∀ x, foldedSetIterable iter X.env x = pure x := by intro _; rfl) : DS X (.For tg iter body [] pos) (wFor t F G) := by
  refine ⟨fun B W tk => ⟨fun pins s st H Dn I ⟨m, en, S, dn, g, f, q1, q2, q3, q4⟩ => (ps_for hp hc (hi.go B W tk) hg.go (hb.go B W tk) hs).run pins s st H Dn I ⟨m, en, S, _, g, f, fun J H1 p1 => ?_⟩⟩⟩
  obtain ⟨m1, S1, ws, ok, e1, r1, io, h1⟩ := p1
  refine ⟨fun i n st' H' => n = ws.length - i ∧ i ≤ ws.length ∧ ∃ m' en' S', Ext m1 H1 m' H' ∧ Stg X.K B m' H' S' st' en' ∧ wTurns t G ok W dn (ws.drop i) en' S', ⟨ws.length, by simp, Nat.zero_le _, m1, en, S1, Ext.refl, g.next e1 r1, by simpa using h1⟩, ?_⟩
  rintro i n st' H' ⟨rfl, hi', m', en', S', e', g', h'⟩
  have iok := io m' H' S' e'.exo g'.rel (wTurns_ok h') i
  by_cases hlt : i < ws.length
  · refine .inr ?_
    rw [List.drop_eq_getElem_cons hlt] at h'
    obtain ⟨_, h'⟩ := h'
    obtain ⟨go, yl⟩ := iok.1 ws[i] (List.getElem?_eq_getElem hlt)
    refine ⟨go, fun st2 H2 => ∃ m2 en2 S2, Ext m1 H1 m2 H2 ∧ Stg X.K B m2 H2 S2 st2 en2 ∧ wTurns t G ok W dn (ws.drop (i + 1)) en2 S2, fun st2 H2 hN => ⟨ws.length - (i + 1), by omega, rfl, hlt, hN⟩, fun x H2 y => ?_⟩
    obtain ⟨m2, em, e2, r2, v2⟩ := yl x H2 y
    split at h'
    · rename_i en2 ee
      refine Tg.run t x ws[i] st' en' en2 _ v2 (g'.env.mono e2) ee fun st3 g3 _ => ?_
      refine ⟨m2, en2, S', _, ⟨(g'.ex.trans e2), r2, g3⟩, h', fun st4 H4 p => ?_, fun v H4 p => q2 v H4 (p.tr ((e1.trans e').trans e2)), fun st4 H4 p => q1 st4 H4 (p.tr ((e1.trans e').trans e2)), fun st4 H4 p => ?_⟩
      · obtain ⟨m4, S4, en4, e4, r4, g4, h4⟩ := p
        exact ⟨m4, en4, S4, (e'.trans e2).trans e4, ⟨(g'.ex.trans e2).trans e4, r4, g4⟩, h4⟩
      · obtain ⟨m4, S4, en4, e4, r4, g4, h4⟩ := p
        exact ⟨m4, en4, S4, (e'.trans e2).trans e4, ⟨(g'.ex.trans e2).trans e4, r4, g4⟩, h4⟩
    · exact h'.elim
  · have e : i = ws.length := by omega
    subst e
    rw [List.drop_length] at h'
    exact .inl ⟨iok.2 (Nat.le_refl _), q1 _ _ ⟨m', S', en', e1.trans e', g'.rel, g'.env, h'.2⟩⟩
end

/-! ### while -/
def wWhile (T : WT) (body : WS) : WS := fun W dn en S => ∃ P : Nat → Env → Sto → Prop, (∃ n, P n en S) ∧ ∀ n en S, P n en S → T W en S fun b S1 => if b = true then body W ⟨fun e s => ∃ n', n' < n ∧ P n' e s, dn.rt, dn.nx, fun e s => ∃ n', n' < n ∧ P n' e s⟩ en S1 else dn.nx en S1
section
variable {X : Cx} {c : Expr} {body : List Stmt} {T : WT} {G : WS} {pos : Pos}
theorem ds_while (hp : PassesOwn (model X.prog X.w) X.A X.env X.xe) (hc : DT X c T) (hb : DSs X body G) : DS X (.While c body [] pos) (wWhile T G) := by
  refine ⟨fun B W tk => ⟨fun pins s st H Dn I ⟨m, en, S, dn, g, f, q1, q2, q3, q4⟩ => (ps_while hp (hc.go B W tk) (hb.go B W tk)).run pins s st H Dn I ?_⟩⟩
  obtain ⟨P, ⟨n0, h0⟩, step⟩ := f
  refine ⟨fun n st' H' => ∃ m' en' S', Ext m H m' H' ∧ Stg X.K B m' H' S' st' en' ∧ P n en' S', ⟨n0, m, en, S, Ext.refl, g, h0⟩, ?_⟩
  rintro n st' H' ⟨m', en', S', e', g', h'⟩
  refine ⟨m', en', S', _, g', step n en' S' h', fun b H1 p1 => ?_⟩
  obtain ⟨m1, S1, e1, r1, h1⟩ := p1
  cases b with
  | true =>
    refine ⟨fun st2 H2 => ∃ n', n' < n ∧ ∃ m2 en2 S2, Ext m H m2 H2 ∧ Stg X.K B m2 H2 S2 st2 en2 ∧ P n' en2 S2, fun st2 H2 h => h, ?_⟩
    refine ⟨m1, en', S1, _, g'.next e1 r1, h1, fun st4 H4 p => ?_, fun v H4 p => q2 v H4 (p.tr (e'.trans e1)), fun st4 H4 p => q1 st4 H4 (p.tr (e'.trans e1)), fun st4 H4 p => ?_⟩
    · obtain ⟨m4, S4, en4, e4, r4, g4, n', hn, h4⟩ := p
      exact ⟨n', hn, m4, en4, S4, (e'.trans e1).trans e4, ⟨(g'.ex.trans e1).trans e4, r4, g4⟩, h4⟩
    · obtain ⟨m4, S4, en4, e4, r4, g4, n', hn, h4⟩ := p
      exact ⟨n', hn, m4, en4, S4, (e'.trans e1).trans e4, ⟨(g'.ex.trans e1).trans e4, r4, g4⟩, h4⟩
  | false => exact q1 _ _ ⟨m1, S1, en', e'.trans e1, r1, g'.env.mono e1, h1⟩
end
end DL

set_option Elab.async false
set_option linter.all false
set_option maxRecDepth 100000
set_option maxHeartbeats 4000000
/-! DL8: comprehensions; calls of own defs; a def. -/
namespace DL
open PySem PySem.Spec PyProof.Rows L2

/-! ### the list at D0 is made: it counts as another's meanwhile -/
abbrev Ids.sh (m : Ids) (a : Addr) : Ids := ⟨m.l, a :: m.o⟩
abbrev Ids.us (m : Ids) (o : List Addr) : Ids := ⟨m.l, o⟩
section
variable {K : PySem.W.Frag} {m m1 m2 : Ids} {H H1 H2 : Hp} {S : Sto} {p : Addr}
/-- from one stage to another one that says as much of the data -/
structure Tr (m : Ids) (H : Hp) (m1 : Ids) (H1 : Hp) : Prop where
  l : m1.l = m.l
  keep : ∀ (a : Addr) (o : HO), H a = some o → Fr m a → H1 a = some o ∧ Fr m1 a
mutual
theorem RD.tr (e : Tr m H m1 H1) {v : V} {x : PyData} : RD K m H v x → RD K m1 H1 v x
  | .non => .non
  | .bl b => .bl b
  | .int i => .int i
  | .str z => .str z
  | .lst h n hs => .lst (e.keep _ _ h n).1 (e.keep _ _ h n).2 (RDs.tr e hs)
  | .tup (.inl h) hs => .tup (.inl (by
      rcases h with ⟨h | ⟨o, h⟩, n⟩
      · exact ⟨.inl (e.keep _ _ h n).1, (e.keep _ _ h n).2⟩
      · exact ⟨.inr ⟨o, (e.keep _ _ h n).1⟩, (e.keep _ _ h n).2⟩)) (RDs.tr e hs)
  | .tup (.inr h) hs => .tup (.inr h) (RDs.tr e hs)
theorem RDs.tr (e : Tr m H m1 H1) {vs : List V} {xs : List PyData} : RDs K m H vs xs → RDs K m1 H1 vs xs
  | .nil => .nil
  | .cons h t => .cons (RD.tr e h) (RDs.tr e t)
end
theorem RV.tr (e : Tr m H m1 H1) {v : V} {x : Val} (h : RV K m H v x) : RV K m1 H1 v x := by
  cases h with
  | d h => exact .d (h.tr e)
  | r h => exact .r (by rw [e.l]; exact h)
  | z h => exact .z (by rw [e.l]; exact h)
  | s h hs =>
    refine .s ?_ (RDs.tr e hs)
    rcases h with ⟨h | ⟨o, h⟩, n⟩ | h
    · exact .inl ⟨.inl (e.keep _ _ h n).1, (e.keep _ _ h n).2⟩
    · exact .inl ⟨.inr ⟨o, (e.keep _ _ h n).1⟩, (e.keep _ _ h n).2⟩
    · exact .inr h
theorem RVs.tr (e : Tr m H m1 H1) : ∀ {vs : List V} {xs : List Val}, RVs K m H vs xs → RVs K m1 H1 vs xs
  | _, _, .nil => .nil
  | _, _, .cons h t => .cons (h.tr e) (RVs.tr e t)
theorem pair_tr {α : Type} (e : Tr m H m1 H1) : ∀ {xs : List (α × V)} {ys : List (α × Val)}, Paired (fun (p : α × V) (q : α × Val) => p.1 = q.1 ∧ RV K m H p.2 q.2) xs ys → Paired (fun (p : α × V) (q : α × Val) => p.1 = q.1 ∧ RV K m1 H1 p.2 q.2) xs ys
  | _, _, .nil => .nil
  | _, _, .cons h t => .cons ⟨h.1, h.2.tr e⟩ (pair_tr e t)
theorem REnv.tr {st : L2.St} {en : Env} (e : Tr m H m1 H1) (h : REnv K m H st en) : REnv K m1 H1 st en :=
  ⟨h.len, fun i w hw => let ⟨v, h1, h2⟩ := h.at_ i w hw; ⟨v, h1, h2.tr e⟩⟩
theorem RO.tr {x : Option Addr} {o : Ob} (e : Tr m H m1 H1) (ha : ∀ a, x = some a → (∀ u, H a = some u → H1 a = some u)) (h : RO K m H x o) : RO K m1 H1 x o := by
  cases x with
  | none => cases o <;> exact h
  | some a =>
    have ha := ha a rfl
    cases o with
    | dead => exact True.intro
    | ro ws =>
      obtain ⟨vs, h1, h2⟩ := h
      refine ⟨vs, ?_, RVs.tr e h2⟩
      rcases h1 with h1 | h1
      · rcases h1 with h1 | ⟨u, h1⟩
        · exact .inl (.inl (ha _ h1))
        · exact .inl (.inr ⟨u, ha _ h1⟩)
      · exact .inr h1
    | lst ws =>
      obtain ⟨vs, h1, h2⟩ := h
      exact ⟨vs, ha _ h1, RVs.tr e h2⟩
    | dct kvs =>
      obtain ⟨vs, h1, h2⟩ := h
      exact ⟨vs, ha _ h1, pair_tr e h2⟩
    | ins C fs =>
      obtain ⟨dx, vs, h1, h2⟩ := h
      exact ⟨dx, vs, ha _ h1, pair_tr e h2⟩
/-- a new object at p counts as another's -/
theorem tr_in (h : H p = none) {o : HO} : Tr m H (m.sh p) (upd H p o) := ⟨rfl, fun a u e n => ⟨by rw [upd_ne (ne_of_none e h)]; exact e, n.1, fun z => by
  rcases List.mem_cons.mp z with z | z
  · exact ne_of_none e h z
  · exact n.2 z⟩⟩
theorem tr_upd (h : p ∈ m.o) {o : HO} : Tr m H m (upd H p o) := ⟨rfl, fun a u e n => ⟨by rw [upd_ne (fun (z : a = p) => n.2 (by rw [z]; exact h))]; exact e, n⟩⟩
theorem tr_out {os : List Addr} (h : m.o = p :: os) : Tr m H (m.us os) H := ⟨rfl, fun a u e n => ⟨e, n.1, fun z => n.2 (by rw [h]; exact List.mem_cons_of_mem _ z)⟩⟩
theorem Rel.sh (r : Rel K m H S) (h : H p = none) {o : HO} : Rel K (m.sh p) (upd H p o) S := by
  have n := r.newF h
  refine ⟨r.len, r.inj, fun i x u e1 e2 => (r.ob i x u e1 e2).tr (tr_in h) fun a ea u hu => ?_, r.dd, fun i a e => ?_, fun a ha => ?_, r.tb.new h fun q hq => ⟨(r.tb.fr q hq).1, fun z => by
    rcases List.mem_cons.mp z with z | z
    · exact r.tb.nep h q hq z
    · exact (r.tb.fr q hq).2 z⟩⟩
  · rw [upd_ne (ne_of_none hu h)]
    exact hu
  · obtain ⟨u, q⟩ := r.tr i a e
    exact ⟨u, by rw [upd_ne (ne_of_none q h)]; exact q⟩
  · rcases List.mem_cons.mp ha with z | z
    · subst z
      exact ⟨⟨_, upd_same⟩, n.1⟩
    · obtain ⟨⟨u, q⟩, n2⟩ := r.out a z
      exact ⟨⟨u, by rw [upd_ne (ne_of_none q h)]; exact q⟩, n2⟩
theorem Rel.updO (r : Rel K m H S) (h : p ∈ m.o) {o : HO} (hx : ∀ u, H p = some u → ∀ φ, u ≠ .ext φ) : Rel K m (upd H p o) S := by
  have n := (r.out p h).2
  refine ⟨r.len, r.inj, fun i x u e1 e2 => (r.ob i x u e1 e2).tr (tr_upd h) fun a ea u hu => ?_, r.dd, fun i a e => ?_, fun a ha => ?_, r.tb.up (fun q hq z => (r.tb.fr q hq).2 (by rw [z]; exact h)) r.tb.fr hx⟩
  · subst ea
    rw [upd_ne (fun (z : a = p) => n (by rw [← z]; exact List.mem_of_getElem? e1))]
    exact hu
  · obtain ⟨u, q⟩ := r.tr i a e
    exact ⟨u, by rw [upd_ne (fun (z : a = p) => n (by rw [← z]; exact List.mem_of_getElem? e))]; exact q⟩
  · by_cases z : a = p
    · subst z
      exact ⟨⟨o, upd_same⟩, n⟩
    · obtain ⟨⟨u, q⟩, n2⟩ := r.out a ha
      exact ⟨⟨u, by rw [upd_ne z]; exact q⟩, n2⟩
theorem Rel.us {os : List Addr} (r : Rel K m H S) (h : m.o = p :: os) : Rel K (m.us os) H S :=
  ⟨r.len, r.inj, fun i x u e1 e2 => (r.ob i x u e1 e2).tr (tr_out h) fun a ea u hu => hu, r.dd, r.tr, fun a ha => r.out a (by rw [h]; exact List.mem_cons_of_mem _ ha), r.tb.same fun q hq => ⟨(r.tb.fr q hq).1, fun z => (r.tb.fr q hq).2 (by rw [h]; exact List.mem_cons_of_mem _ z)⟩⟩
end

/-! ### a comprehension of one clause -/
def wipeE (en : Env) : List Nat → Env
  | [] => en
  | v :: vs => (wipeE en vs).set v none
theorem REnv.unset {K : PySem.W.Frag} {m : Ids} {H : Hp} {st : L2.St} {en : Env} {i : Nat} (g : REnv K m H st en) : REnv K m H (st.set i none) (en.set i none) := by
  refine ⟨by simp [g.len], fun j w' e => ?_⟩
  by_cases hj : j = i
  · subst hj
    by_cases hl : j < en.length
    · rw [List.getElem?_set_self hl] at e
      cases e
    · rw [List.set_eq_of_length_le (by omega)] at e
      exact absurd (List.getElem?_eq_some_iff.mp e).1 hl
  · rw [List.getElem?_set_ne (Ne.symm hj)] at e
    obtain ⟨v', h1, h2⟩ := g.at_ j w' e
    exact ⟨v', by rw [List.getElem?_set_ne (Ne.symm hj)]; exact h1, h2⟩
theorem REnv.wipe {K : PySem.W.Frag} {m : Ids} {H : Hp} {st : L2.St} {en : Env} (g : REnv K m H st en) : ∀ vs : List Nat, REnv K m H (L2.wipe st vs) (wipeE en vs)
  | [] => g
  | v :: vs => (REnv.wipe g vs).unset
abbrev noX : XQ := fun _ _ _ => False
theorem takes_no {X : Cx} {B : Bs} : Takes X (lX X B noX) := fun _ _ x => by
  obtain ⟨_, _, _, _, _, _, _, _, _, _, _, _, _, _, _, _, z⟩ := x
  obtain ⟨_, _, _, _, _, _, _, _, z⟩ := z
  exact z.elim
/-- the tests behind if -/
structure DTs (X : Cx) (ifs : List Expr) (T : WT) : Prop where
  go : ∀ (B : Bs) (W : XQ), Takes X (lX X B W) → PTs X ifs (lT X.K B T W)
def wYes : WT := fun _ _ S k => k true S
section
variable {X : Cx}
theorem dts_nil : DTs X [] wYes := ⟨fun B W tk => ⟨fun pins s st H Q I ⟨m, en, S, k, g, f, q⟩ => (pts_nil (X := X)).run pins s st H Q I (q _ _ (PostB.here g.rel f))⟩⟩
theorem dts_one {c : Expr} {T : WT} (h : DT X c T) : DTs X [c] T := ⟨fun B W tk => pts_one (h.go B W tk)⟩
end
/-- the items made so far, then the rest -/
def wLcT (t : Tg) (T : WT) (E : WE) (ok : Sto → Prop) (en : Env) (k : KA) : List Val → List Val → Sto → Prop
  | [], acc, S => ok S ∧ k acc S
  | w :: ws, acc, S => ok S ∧ match t.w w en with
    | some en' => T noX en' S fun b S1 => if b = true then E noX en' S1 fun y S2 => acc.length < 1000000 ∧ wLcT t T E ok en k ws (acc ++ [y]) S2 else wLcT t T E ok en k ws acc S1
    | none => False
def wLcA (vs : List Nat) (t : Tg) (I : WI) (T : WT) (E : WE) (W : XQ) (en : Env) (S : Sto) (k : KA) : Prop := (∀ i ∈ t.sl, i ∈ vs) ∧ I W en S fun ws ok S1 => wLcT t T E ok (wipeE en vs) k ws [] S1
/-- the new list as data; by its number -/
def wLc (vs : List Nat) (t : Tg) (I : WI) (T : WT) (E : WE) : WE := fun W en S k => wLcA vs t I T E W en S fun ws S1 => match dats ws with
  | some xs => k (.d (.list xs)) S1
  | none => False
def wLcM (vs : List Nat) (t : Tg) (I : WI) (T : WT) (E : WE) : WE := fun W en S k => wLcA vs t I T E W en S fun ws S1 => k (.r S1.length) (S1 ++ [.lst ws])
theorem wLcT_ok {t : Tg} {T : WT} {E : WE} {ok : Sto → Prop} {en : Env} {k : KA} {ws acc : List Val} {S : Sto} (h : wLcT t T E ok en k ws acc S) : ok S := by
  cases ws with
  | nil => exact h.1
  | cons w ws => exact h.1
theorem Ext.base {m : Ids} {H : Hp} : Ext ⟨[], []⟩ noH m H := ⟨fun _ _ h => (by cases h), fun _ _ h => (by cases h), ⟨fun _ h => (by cases h), fun _ _ => .inr rfl⟩, fun _ _ h => (by cases h)⟩
abbrev B0 : Bs := (⟨[], []⟩, noH)
section
variable {X : Cx} {elt tg iter : Expr} {ifs : List Expr} {scope : Scope} {own : List (Str × Nat)} {pos : Pos} {F : WI} {t : Tg} {T : WT} {E : WE}
/-- the core: from the layer's reading -/
theorem lc_of {K : PySem.W.Frag} {st : L2.St} {Qd : Hp → Prop} {en : Env} {k : KA} {J : It} {H1 : Hp} {vs : List Nat} {m1 : Ids} {S1 : Sto} {ws : List Val} {ok : Sto → Prop}
    (hm : ∀ i ∈ t.sl, i ∈ vs) (r1 : Rel K m1 H1 S1) (g1 : REnv K m1 H1 st en) (io : ItOk K m1 H1 J ws ok) (h1 : wLcT t T E ok (wipeE en vs) k ws [] S1) (D0 : Addr) (hD : H1 D0 = none)
    (fin : ∀ m2 H2 S2 us ws2, Ext m1 H1 m2 H2 → Rel K m2 H2 S2 → H2 D0 = some (.lst us) → D0 ∈ m2.o → D0 ∉ m1.o → RVs K m2 H2 us ws2 → k ws2 S2 → Qd H2) :
    ∃ Wi : Nat → Nat → Hp → Prop, (∃ n, Wi 0 n (upd H1 D0 (.lst []))) ∧ ∀ i n H, Wi i n H → (J.stop i H ∧ Qd H) ∨ (J.go i H ∧ ∃ Nx : Hp → Prop, (∀ H', Nx H' → ∃ n', n' < n ∧ Wi (i + 1) n' H') ∧
      ∀ x H', J.yld i H x H' → t.g K x (L2.wipe st vs) H' fun st2 H2 => L2.wipe st2 vs = L2.wipe st vs ∧ lT K B0 T noX st2 H2 fun b H3 =>
        if b = true then lE K B0 E noX st2 H3 fun y H4 => ∃ acc, H4 D0 = some (.lst acc) ∧ acc.length < sizeLine ∧ Nx (upd H4 D0 (.lst (acc ++ [y]))) else Nx H3) := by
  have nD := r1.newF hD
  have stay : ∀ {m' : Ids} {H' : Hp} {m'' : Ids} {H'' : Hp} {o : HO}, Ext m1 H1 m' H' → Ext m' H' m'' H'' → D0 ∈ m'.o → D0 ∈ m''.o := fun _ b h => b.out.1 _ h
  refine ⟨fun i n H' => n = ws.length - i ∧ i ≤ ws.length ∧ ∃ m' S' us acc, Ext m1 H1 m' H' ∧ D0 ∈ m'.o ∧ Rel K m' H' S' ∧ REnv K m' H' st en ∧ H' D0 = some (.lst us) ∧ RVs K m' H' us acc ∧ wLcT t T E ok (wipeE en vs) k (ws.drop i) acc S',
    ⟨ws.length, by simp, Nat.zero_le _, m1.sh D0, S1, [], [], ?_, List.mem_cons_self, r1.sh hD, g1.tr (tr_in hD), upd_same, .nil, by simpa using h1⟩, ?_⟩
  · refine ⟨fun a o e n => ⟨fun _ => by rw [upd_ne (ne_of_none e hD)]; exact e, n⟩, fun _ _ e => .inl e, ⟨fun a h => List.mem_cons_of_mem _ h, fun a h => ?_⟩, upd_th⟩
    rcases List.mem_cons.mp h with z | z
    · exact .inr (by rw [z]; exact hD)
    · exact .inl z
  · rintro i n H' ⟨rfl, hi, m', S', us, acc, e', ho, r', g', hd', v', h'⟩
    have iok := io m' H' S' e'.exo r' (wLcT_ok h') i
    by_cases hlt : i < ws.length
    · refine .inr ?_
      rw [List.drop_eq_getElem_cons hlt] at h'
      obtain ⟨_, h'⟩ := h'
      obtain ⟨go, yl⟩ := iok.1 ws[i] (List.getElem?_eq_getElem hlt)
      refine ⟨go, fun H2 => ∃ m2 S2 us acc, Ext m1 H1 m2 H2 ∧ D0 ∈ m2.o ∧ Rel K m2 H2 S2 ∧ REnv K m2 H2 st en ∧ H2 D0 = some (.lst us) ∧ RVs K m2 H2 us acc ∧ wLcT t T E ok (wipeE en vs) k (ws.drop (i + 1)) acc S2,
        fun H2 hN => ⟨ws.length - (i + 1), by omega, rfl, hlt, hN⟩, fun x H2 y => ?_⟩
      obtain ⟨m2, em2, e2, r2, v2⟩ := yl x H2 y
      split at h'
      · rename_i en2 ee
        -- what an extension keeps
        have on : ∀ {m3 : Ids} {H3 : Hp} {S3 : Sto}, Ext m' H' m3 H3 → Rel K m3 H3 S3 → Ext m1 H1 m3 H3 ∧ D0 ∈ m3.o ∧ REnv K m3 H3 st en ∧ H3 D0 = some (.lst us) ∧ RVs K m3 H3 us acc := fun {m3 H3 S3} e3 r3 =>
          ⟨e'.trans e3, e3.out.1 _ ho, g'.mono e3, (e3.keep _ _ hd' (r'.out _ ho).2).1, RVs.mono e3 v'⟩
        refine Tg.run t x ws[i] _ _ en2 _ v2 ((g'.mono e2).wipe vs) ee fun st3 g3 hw => ?_
        refine ⟨?_, m2, en2, S', _, ⟨Ext.base, r2, g3⟩, h', fun b H3 p3 => ?_⟩
        · rw [hw vs hm]
          have idem : ∀ (vs : List Nat) (st : L2.St), L2.wipe (L2.wipe st vs) vs = L2.wipe st vs := by
            have one : ∀ (vs : List Nat) (st : L2.St) (i : Nat), i ∈ vs → (L2.wipe st vs).set i none = L2.wipe st vs := by
              intro vs
              induction vs with
              | nil => intro st i h; cases h
              | cons v vs ih =>
                intro st i h
                unfold L2.wipe
                by_cases z : i = v
                · rw [z, List.set_set]
                · rcases List.mem_cons.mp h with h | h
                  · exact absurd h z
                  · rw [List.set_comm _ _ (Ne.symm z), ih st i h]
            have all : ∀ (us vs : List Nat) (st : L2.St), (∀ i ∈ us, i ∈ vs) → L2.wipe (L2.wipe st vs) us = L2.wipe st vs := by
              intro us
              induction us with
              | nil => intro vs st _; rfl
              | cons u us ih =>
                intro vs st h
                show (L2.wipe (L2.wipe st vs) us).set u none = _
                rw [ih vs st fun i hi => h i (List.mem_cons_of_mem _ hi)]
                exact one vs st u (h u List.mem_cons_self)
            exact fun vs st => all vs vs st fun _ h => h
          exact idem vs st
        · obtain ⟨m3, S3, e3, r3, h3⟩ := p3
          cases b with
          | false =>
            obtain ⟨a1, a2, a3, a4, a5⟩ := on (e2.trans e3) r3
            exact ⟨m3, S3, us, acc, a1, a2, r3, a3, a4, a5, h3⟩
          | true =>
            refine ⟨m3, en2, S3, _, ⟨Ext.base, r3, g3.mono e3⟩, h3, fun y H4 p4 => ?_⟩
            obtain ⟨m4, S4, w4, e4, r4, v4, hl, h4⟩ := p4
            obtain ⟨a1, a2, a3, a4, a5⟩ := on ((e2.trans e3).trans e4) r4
            have tu : Tr m4 H4 m4 (upd H4 D0 (.lst (us ++ [y]))) := tr_upd a2
            refine ⟨us, a4, ?_, m4, S4, us ++ [y], acc ++ [w4], ?_, a2, r4.updO a2 (fun u hu φ z => by rw [a4] at hu; cases hu; cases z), a3.tr tu, upd_same, RVs.append (RVs.tr tu a5) (.cons (v4.tr tu) .nil), h4⟩
            · rw [a5.length]
              exact line6' hl
            · refine ⟨fun a o h n => ⟨fun nt => ?_, (a1.kp a o h n).2⟩, a1.ids, a1.out, fun a o h => ?_⟩
              · rw [upd_ne (fun (z : a = D0) => by rw [z, hD] at h; cases h)]
                exact (a1.kp a o h n).1 nt
              · obtain ⟨o', q⟩ := a1.th a o h
                exact upd_th a o' q
      · exact h'.elim
    · have e : i = ws.length := by omega
      subst e
      rw [List.drop_length] at h'
      exact .inl ⟨iok.2 (Nat.le_refl _), fin m' H' S' us acc e' r' hd' ho nD.2 v' h'.2⟩
theorem pe_lcD {B : Bs} {W : XQ} (hc : X.calm = true) (hN : X.N.Nodup) (hi : PI X tg iter (lI X.K B F W)) (ok : BlkOk X.N X.env.scope scope own)
    (hg : ∀ (s : Shared) (H : Hp) (C : Addr) (cl : List (Str × Addr)) (fp : List Addr), DG (X.blk s H scope (compEnvC scope cl C X.env) fp) tg t) (ht : ∀ (s : Shared) (H : Hp) (C : Addr) (cl : List (Str × Addr)) (fp : List Addr), DTs (X.blk s H scope (compEnvC scope cl C X.env) fp) ifs T)
    (he : ∀ (s : Shared) (H : Hp) (C : Addr) (cl : List (Str × Addr)) (fp : List Addr), DE (X.blk s H scope (compEnvC scope cl C X.env) fp) elt E) (hs : ∀ x, foldedSetIterable iter X.env x = pure x) :
    PE X (.ListComp elt [⟨tg, iter, ifs, 0⟩] scope pos) (tLc (lI X.K B F W) (t.g X.K) (lT X.K B0 T noX) (lE X.K B0 E noX) (own.map (·.2))) :=
  pe_lc hc hN hi ok (fun s H C cl fp => (hg s H C cl fp).go) (fun s H C cl fp => (ht s H C cl fp).go B0 noX takes_no) (fun s H C cl fp => (he s H C cl fp).go B0 noX takes_no) hs
theorem lc_read {K : PySem.W.Frag} {B : Bs} {W : XQ} {st : L2.St} {H : Hp} {Q : VK} {k : KA} {m : Ids} {en : Env} {S : Sto} {vs : List Nat} (g : Stg K B m H S st en) (f : wLcA vs t F T E W en S k)
    (fin : ∀ (m2 : Ids) (H2 : Hp) (S2 : Sto) (us : List V) (ws2 : List Val) (D0 : Addr), Ext m H m2 H2 → Rel K m2 H2 S2 → H2 D0 = some (.lst us) → D0 ∈ m2.o → H D0 = none → D0 ∉ m.o → RVs K m2 H2 us ws2 → k ws2 S2 → Q (.ref D0) H2) :
    tLc (lI K B F W) (t.g K) (lT K B0 T noX) (lE K B0 E noX) vs st H Q := by
  obtain ⟨hm, f⟩ := f
  refine ⟨m, en, S, _, g, f, fun J H1 p1 => ?_⟩
  obtain ⟨m1, S1, ws, ok, e1, r1, io, h1⟩ := p1
  intro D0 hD
  refine lc_of hm r1 (g.env.mono e1) io h1 D0 hD fun m2 H2 S2 us ws2 e2 r2 q1 q2 q6 q3 q4 => fin m2 H2 S2 us ws2 D0 (e1.trans e2) r2 q1 q2 ?_ (fun z => q6 (e1.out.1 _ z)) q3 q4
  cases q : H D0 with
  | none => rfl
  | some o =>
    obtain ⟨o', q'⟩ := e1.th D0 o q
    rw [hD] at q'
    cases q'
/-- D0 is given back -/
abbrev Ids.gv (m : Ids) (p : Addr) : Ids := ⟨m.l, m.o.filter fun a => a ≠ p⟩
abbrev Ids.ow (m : Ids) (p : Addr) : Ids := ⟨m.l ++ [some p], m.o.filter fun a => a ≠ p⟩
theorem lc_data {K : PySem.W.Frag} {B : Bs} {W : XQ} {st : L2.St} {H : Hp} {Q : VK} {k : KE} {m : Ids} {en : Env} {S : Sto} {vs : List Nat} (g : Stg K B m H S st en) (f : wLc vs t F T E W en S k) (q : ∀ v H', Post K m H k v H' → Q v H') :
    tLc (lI K B F W) (t.g K) (lT K B0 T noX) (lE K B0 E noX) vs st H Q := lc_read g f fun m2 H2 S2 us ws2 D0 e2 r2 q1 q2 q3 q6 q4 q5 => by
  split at q5
  · rename_i xs ed
    have nDl := (r2.out D0 q2).2
    have T0 : Tr m2 H2 (m2.gv D0) H2 := ⟨rfl, fun a u e n => ⟨e, n.1, fun z => n.2 (List.mem_filter.mp z).1⟩⟩
    refine q _ _ ⟨m2.gv D0, S2, _, ?_, ?_, .d (.lst q1 ⟨nDl, fun z => ?_⟩ ((dats_rel q4 ed).tr T0)), q5⟩
    · refine ⟨e2.kp, e2.ids, ⟨fun a h => List.mem_filter.mpr ⟨e2.out.1 a h, ?_⟩, fun a h => e2.out.2 a (List.mem_filter.mp h).1⟩, e2.th⟩
      exact decide_eq_true fun (z : a = D0) => q6 (by rw [← z]; exact h)
    · exact ⟨r2.len, r2.inj, fun i x u e1 e2 => (r2.ob i x u e1 e2).tr T0 fun a ea u hu => hu, r2.dd, r2.tr, fun a ha => r2.out a (List.mem_filter.mp ha).1, r2.tb.same fun q hq => ⟨(r2.tb.fr q hq).1, fun z => (r2.tb.fr q hq).2 (List.mem_filter.mp z).1⟩⟩
    · have q := (List.mem_filter.mp z).2
      simp at q
  · exact q5.elim
/-- an object of another's comes to be at hand -/
theorem own_add {K : PySem.W.Frag} {m2 : Ids} {H2 : Hp} {S2 : Sto} {D0 : Addr} {us : List V} {ws2 : List Val} (r2 : Rel K m2 H2 S2) (q1 : H2 D0 = some (.lst us)) (q2 : D0 ∈ m2.o) (q4 : RVs K m2 H2 us ws2) :
    Rel K (m2.ow D0) H2 (S2 ++ [.lst ws2]) := by
  have nDl := (r2.out D0 q2).2
  have E0 : Ext m2 H2 (m2.ow D0) H2 → True := fun _ => True.intro
  have at_ : ∀ (i : Nat) (x : Option Addr), (m2.l ++ [some D0])[i]? = some x → m2.l[i]? = some x ∨ (i = m2.l.length ∧ x = some D0) := fun i x e => by
    rw [List.getElem?_append] at e
    split at e
    · exact .inl e
    · rename_i hi
      have hi' : i - m2.l.length = 0 := by
        cases q : i - m2.l.length with
        | zero => rfl
        | succ n => rw [q] at e; simp at e
      rw [hi'] at e
      exact .inr ⟨by omega, by simpa using e.symm⟩
  -- data stays data: nothing of it stands at D0
  have fr : ∀ a, Fr m2 a → Fr (m2.ow D0) a := fun a n => ⟨fun z => by
    rcases List.mem_append.mp z with z | z
    · exact n.1 z
    · have z' : a = D0 := by simpa using z
      exact n.2 (by rw [z']; exact q2), fun z => n.2 (List.mem_filter.mp z).1⟩
  have rd : ∀ n : Nat, (∀ v (x : PyData), sizeOf x < n → RD K m2 H2 v x → RD K (m2.ow D0) H2 v x) ∧ (∀ vs (xs : List PyData), sizeOf xs < n → RDs K m2 H2 vs xs → RDs K (m2.ow D0) H2 vs xs) := by
    intro n
    induction n with
    | zero => exact ⟨fun _ _ h => absurd h (Nat.not_lt_zero _), fun _ _ h => absurd h (Nat.not_lt_zero _)⟩
    | succ n ih =>
      refine ⟨fun v x hs h => ?_, fun vs xs hs h => ?_⟩
      · cases h with
        | non => exact .non
        | bl b => exact .bl b
        | int i => exact .int i
        | str z => exact .str z
        | lst h1 h2 h3 => exact .lst h1 (fr _ h2) (ih.2 _ _ (by simp at hs; omega) h3)
        | tup h1 h2 =>
          refine .tup ?_ (ih.2 _ _ (by simp at hs; omega) h2)
          rcases h1 with h1 | h1
          · exact .inl ⟨h1.1, fr _ h1.2⟩
          · exact .inr h1
      · cases h with
        | nil => exact .nil
        | cons h t => exact .cons (ih.1 _ _ (by simp at hs; omega) h) (ih.2 _ _ (by simp at hs; omega) t)
  have lk : ∀ (i : Nat) (x : Option Addr), m2.l[i]? = some x → (m2.ow D0).l[i]? = some x := fun i x e => by
    show (m2.l ++ [some D0])[i]? = some x
    rw [List.getElem?_append_left (List.getElem?_eq_some_iff.mp e).1]
    exact e
  have rv : ∀ v (w : Val), RV K m2 H2 v w → RV K (m2.ow D0) H2 v w := fun v w h => by
    cases h with
    | d h => exact .d ((rd _).1 v _ (Nat.lt_succ_self _) h)
    | r h => exact .r (lk _ _ h)
    | z h => exact .z (lk _ _ h)
    | s h hs =>
      refine .s ?_ ((rd _).2 _ _ (Nat.lt_succ_self _) hs)
      rcases h with h | h
      · exact .inl ⟨h.1, fr _ h.2⟩
      · exact .inr h
  have rvs : ∀ {vs : List V} {ws : List Val}, RVs K m2 H2 vs ws → RVs K (m2.ow D0) H2 vs ws := fun h => Paired.mapP h fun a b => rv a b
  have ro : ∀ (x : Option Addr) (o : Ob), RO K m2 H2 x o → RO K (m2.ow D0) H2 x o := fun x o h => by
    cases x with
    | none => cases o <;> exact h
    | some a =>
      cases o with
      | dead => exact True.intro
      | ro ws =>
        obtain ⟨vs, h1, h2⟩ := h
        exact ⟨vs, h1, rvs h2⟩
      | lst ws =>
        obtain ⟨vs, h1, h2⟩ := h
        exact ⟨vs, h1, rvs h2⟩
      | dct kvs =>
        obtain ⟨vs, h1, h2⟩ := h
        exact ⟨vs, h1, Paired.mapP h2 fun a b z => ⟨z.1, rv _ _ z.2⟩⟩
      | ins C fs =>
        obtain ⟨dx, vs, h1, h2⟩ := h
        exact ⟨dx, vs, h1, Paired.mapP h2 fun a b z => ⟨z.1, rv _ _ z.2⟩⟩
  refine ⟨by simp [r2.len], fun i j a e1 e2 => ?_, fun i x u e1 e2 => ?_, fun i e => ?_, fun i a e => ?_, fun a ha => ?_, r2.tb.same fun q hq => ⟨fun z => ?_, fun z => (r2.tb.fr q hq).2 (List.mem_filter.mp z).1⟩⟩
  · rcases at_ i _ e1 with e1 | ⟨e1, z1⟩
    · rcases at_ j _ e2 with e2 | ⟨e2, z2⟩
      · exact r2.inj i j a e1 e2
      · cases z2
        exact absurd (List.mem_of_getElem? e1) nDl
    · rcases at_ j _ e2 with e2 | ⟨e2, z2⟩
      · cases z1
        exact absurd (List.mem_of_getElem? e2) nDl
      · omega
  · rcases at_ i x e1 with e1 | ⟨rfl, rfl⟩
    · have hi : i < S2.length := by rw [← r2.len]; exact (List.getElem?_eq_some_iff.mp e1).1
      rw [List.getElem?_append_left hi] at e2
      exact ro x u (r2.ob i x u e1 e2)
    · rw [List.getElem?_append_right (by have := r2.len; omega), r2.len, Nat.sub_self] at e2
      have e2' : Ob.lst ws2 = u := by simpa using e2
      subst e2'
      exact ⟨us, q1, rvs q4⟩
  · rcases at_ i _ e with e | ⟨_, q⟩
    · have q := r2.dd i e
      rw [List.getElem?_append_left (List.getElem?_eq_some_iff.mp q).1]
      exact q
    · cases q
  · rcases at_ i _ e with e | ⟨_, q⟩
    · exact r2.tr i a e
    · cases q
      exact ⟨_, q1⟩
  · obtain ⟨z1, z2⟩ := List.mem_filter.mp ha
    refine ⟨(r2.out a z1).1, fun z => ?_⟩
    rcases List.mem_append.mp z with z | z
    · exact (r2.out a z1).2 z
    · have z' : a = D0 := by simpa using z
      simp [z'] at z2
  · rcases List.mem_append.mp z with z | z
    · exact (r2.tb.fr q hq).1 z
    · have z' : q.1 = D0 := by simpa using z
      exact (r2.tb.fr q hq).2 (by rw [z']; exact q2)
theorem lc_new {K : PySem.W.Frag} {B : Bs} {W : XQ} {st : L2.St} {H : Hp} {Q : VK} {k : KE} {m : Ids} {en : Env} {S : Sto} {vs : List Nat} (g : Stg K B m H S st en) (f : wLcM vs t F T E W en S k) (q : ∀ v H', Post K m H k v H' → Q v H') :
    tLc (lI K B F W) (t.g K) (lT K B0 T noX) (lE K B0 E noX) vs st H Q := lc_read g f fun m2 H2 S2 us ws2 D0 e2 r2 q1 q2 q3 q6 q4 q5 => by
  refine q _ _ ⟨m2.ow D0, S2 ++ [.lst ws2], _, ?_, own_add r2 q1 q2 q4, .r ?_, q5⟩
  · refine ⟨fun a o h n => ⟨(e2.kp a o h n).1, fun z => ?_⟩, fun i x h => ?_, ⟨fun a h => List.mem_filter.mpr ⟨e2.out.1 a h, decide_eq_true fun (z : a = D0) => q6 (by rw [← z]; exact h)⟩, fun a h => e2.out.2 a (List.mem_filter.mp h).1⟩, e2.th⟩
    · rcases List.mem_append.mp z with z | z
      · exact (e2.kp a o h n).2 z
      · have z' : a = D0 := by simpa using z
        rw [z', q3] at h
        cases h
    · have lk : ∀ {x : Option Addr}, m2.l[i]? = some x → (m2.l ++ [some D0])[i]? = some x := fun e => by
        rw [List.getElem?_append_left (List.getElem?_eq_some_iff.mp e).1]
        exact e
      rcases e2.ids i x h with h | h
      · exact .inl (lk h)
      · exact .inr (lk h)
  · show (m2.l ++ [some D0])[S2.length]? = some (some D0)
    rw [← r2.len]
    simp
theorem de_lc (hc : X.calm = true) (hN : X.N.Nodup) (hi : DI X tg iter F) (ok : BlkOk X.N X.env.scope scope own)
    (hg : ∀ (s : Shared) (H : Hp) (C : Addr) (cl : List (Str × Addr)) (fp : List Addr), DG (X.blk s H scope (compEnvC scope cl C X.env) fp) tg t) (ht : ∀ (s : Shared) (H : Hp) (C : Addr) (cl : List (Str × Addr)) (fp : List Addr), DTs (X.blk s H scope (compEnvC scope cl C X.env) fp) ifs T)
    (he : ∀ (s : Shared) (H : Hp) (C : Addr) (cl : List (Str × Addr)) (fp : List Addr), DE (X.blk s H scope (compEnvC scope cl C X.env) fp) elt E) (hs : ∀ x, foldedSetIterable iter X.env x = pure x := by intro _; rfl) :
    DE X (.ListComp elt [⟨tg, iter, ifs, 0⟩] scope pos) (wLc (own.map (·.2)) t F T E) :=
  ⟨fun B W tk => ⟨fun pins s st H Q I ⟨m, en, S, k, g, f, q⟩ => (pe_lcD hc hN (hi.go B W tk) ok hg ht he hs).run pins s st H Q I (lc_data g f q)⟩⟩
theorem de_lcM (hc : X.calm = true) (hN : X.N.Nodup) (hi : DI X tg iter F) (ok : BlkOk X.N X.env.scope scope own)
    (hg : ∀ (s : Shared) (H : Hp) (C : Addr) (cl : List (Str × Addr)) (fp : List Addr), DG (X.blk s H scope (compEnvC scope cl C X.env) fp) tg t) (ht : ∀ (s : Shared) (H : Hp) (C : Addr) (cl : List (Str × Addr)) (fp : List Addr), DTs (X.blk s H scope (compEnvC scope cl C X.env) fp) ifs T)
    (he : ∀ (s : Shared) (H : Hp) (C : Addr) (cl : List (Str × Addr)) (fp : List Addr), DE (X.blk s H scope (compEnvC scope cl C X.env) fp) elt E) (hs : ∀ x, foldedSetIterable iter X.env x = pure x := by intro _; rfl) :
    DE X (.ListComp elt [⟨tg, iter, ifs, 0⟩] scope pos) (wLcM (own.map (·.2)) t F T E) :=
  ⟨fun B W tk => ⟨fun pins s st H Q I ⟨m, en, S, k, g, f, q⟩ => (pe_lcD hc hN (hi.go B W tk) ok hg ht he hs).run pins s st H Q I (lc_new g f q)⟩⟩
/-- name = [..] on one line -/
theorem ds_setLc {i : Nat} {y : Str} {py spos : Pos} {R : WE} (hc : X.calm = true) (hN : X.N.Nodup) (hy : X.N[i]? = some y) (hyl : X.env.scope.names.lookup y = some .local)
    (hsw : swapsWith (.ListComp elt [⟨tg, iter, ifs, 0⟩] scope pos) (some (.Name y py)) spos.line X.env = pure true) (hi : DI X tg iter F) (ok : BlkOk X.N X.env.scope scope own)
    (hg : ∀ (s : Shared) (H : Hp) (C : Addr) (cl : List (Str × Addr)) (fp : List Addr), DG (X.blk s H scope (compEnvC scope cl C X.env) fp) tg t) (ht : ∀ (s : Shared) (H : Hp) (C : Addr) (cl : List (Str × Addr)) (fp : List Addr), DTs (X.blk s H scope (compEnvC scope cl C X.env) fp) ifs T)
    (he : ∀ (s : Shared) (H : Hp) (C : Addr) (cl : List (Str × Addr)) (fp : List Addr), DE (X.blk s H scope (compEnvC scope cl C X.env) fp) elt E)
    (hR : ∀ {B : Bs} {W : XQ} {st : L2.St} {H : Hp} {Q : VK} {k : KE} {m : Ids} {en : Env} {S : Sto}, Stg X.K B m H S st en → R W en S k → (∀ v H', Post X.K m H k v H' → Q v H') → tLc (lI X.K B F W) (t.g X.K) (lT X.K B0 T noX) (lE X.K B0 E noX) (own.map (·.2)) st H Q)
    (hs : ∀ x, foldedSetIterable iter X.env x = pure x := by intro _; rfl) :
    DS X (.Assign [.Name y py] (.ListComp elt [⟨tg, iter, ifs, 0⟩] scope pos) spos) (wSet i R) := by
  refine ⟨fun B W tk => ⟨fun pins s st H Dn I ⟨m, en, S, dn, g, f, q1, q2, q3, q4⟩ => (ps_setLc (g := t.g X.K) (tt := lT X.K B0 T noX) (te := lE X.K B0 E noX) hc hN hy hyl hsw (hi.go B W tk) ok (fun s H C cl fp => (hg s H C cl fp).go) (fun s H C cl fp => (ht s H C cl fp).go B0 noX takes_no) (fun s H C cl fp => (he s H C cl fp).go B0 noX takes_no) hs).run pins s st H Dn I ?_⟩⟩
  refine hR g f fun v H' p => ?_
  obtain ⟨m', S', w, e', r', v', f'⟩ := p
  exact q1 _ _ ⟨m', S', _, e', r', (g.env.mono e').set v', f'⟩
end
end DL

set_option Elab.async false
set_option linter.all false
set_option maxRecDepth 100000
set_option maxHeartbeats 4000000
/-! DL9: what a def promises; its call; its body. -/
namespace DL
open PySem PySem.Spec PyProof.Rows L2

structure Spec where
  n : Nat
  γ : Type
  pre : γ → List Val → Sto → Prop
  post : γ → Val → Sto → Prop
  exc : γ → Exc → Sto → Prop := fun _ _ _ => False
  /-- how many new objects are handed back -/
  x : Nat := 0
def liftSp (K : PySem.W.Frag) (mg : Str → Option Value) (sp : Spec) : L2.Sp := fun vs H Q E => vs.length = sp.n ∧ ∃ m ws S g, Rel K m H S ∧ RVs K m H vs ws ∧ sp.pre g ws S ∧ (∀ v H', Post K m H (sp.post g) v H' → Q v H') ∧
  ∀ cls d H', (∃ m' S' x, Ext m H m' H' ∧ Rel K m' H' S' ∧ RX K mg m' H' cls d x ∧ sp.exc g x S') → E cls d H'

/-! ### objects that hold data alone -/
def valPure : Val → Bool
  | .d _ => true
  | .r _ => false
  | .s _ => false
def obPure : Ob → Bool
  | .dead => false
  | .ro ws => ws.all valPure
  | .lst ws => ws.all valPure
  | .dct kvs => kvs.all fun p => valPure p.2
  | .ins _ fs => fs.all fun p => valPure p.2
section
variable {K : PySem.W.Frag} {m m1 : Ids} {H H1 : Hp}
theorem RV.pure (e : ∀ v x, RD K m H v x → RD K m1 H1 v x) {v : V} {w : Val} (p : valPure w = true) (h : RV K m H v w) : RV K m1 H1 v w := by
  cases h with
  | d h => exact .d (e _ _ h)
  | r h => cases p
  | z h => cases p
  | s h hs => cases p
theorem RVs.pure (e : ∀ v x, RD K m H v x → RD K m1 H1 v x) : ∀ {vs : List V} {ws : List Val}, ws.all valPure = true → RVs K m H vs ws → RVs K m1 H1 vs ws
  | _, _, _, .nil => .nil
  | _, _, p, .cons h t => by
    rw [List.all_cons, Bool.and_eq_true] at p
    exact .cons (h.pure e p.1) (RVs.pure e p.2 t)
theorem pair_pure {α : Type} (e : ∀ v x, RD K m H v x → RD K m1 H1 v x) : ∀ {vs : List (α × V)} {ws : List (α × Val)}, (ws.all fun p => valPure p.2) = true → Paired (fun (p : α × V) (q : α × Val) => p.1 = q.1 ∧ RV K m H p.2 q.2) vs ws →
    Paired (fun (p : α × V) (q : α × Val) => p.1 = q.1 ∧ RV K m1 H1 p.2 q.2) vs ws
  | _, _, _, .nil => .nil
  | _, _, p, .cons h t => by
    rw [List.all_cons, Bool.and_eq_true] at p
    exact .cons ⟨h.1, h.2.pure e p.1⟩ (pair_pure e p.2 t)
theorem RO.pure {x : Option Addr} {o : Ob} (e : ∀ v x, RD K m H v x → RD K m1 H v x) (p : obPure o = true) (h : RO K m H x o) : RO K m1 H x o := by
  cases x with
  | none => cases o <;> first | exact h | cases p
  | some a =>
    cases o with
    | dead => cases p
    | ro ws =>
      obtain ⟨vs, h1, h2⟩ := h
      exact ⟨vs, h1, RVs.pure e p h2⟩
    | lst ws =>
      obtain ⟨vs, h1, h2⟩ := h
      exact ⟨vs, h1, RVs.pure e p h2⟩
    | dct kvs =>
      obtain ⟨vs, h1, h2⟩ := h
      exact ⟨vs, h1, pair_pure e p h2⟩
    | ins C fs =>
      obtain ⟨dx, vs, h1, h2⟩ := h
      exact ⟨dx, vs, h1, pair_pure e p h2⟩
mutual
theorem RD.fr (e : ∀ a o, H a = some o → Fr m a → Fr m1 a) {v : V} {x : PyData} : RD K m H v x → RD K m1 H v x
  | .non => .non
  | .bl b => .bl b
  | .int i => .int i
  | .str z => .str z
  | .lst h n hs => .lst h (e _ _ h n) (RDs.fr e hs)
  | .tup (.inl h) hs => .tup (.inl (by
      rcases h with ⟨h | ⟨o, h⟩, n⟩
      · exact ⟨.inl h, e _ _ h n⟩
      · exact ⟨.inr ⟨o, h⟩, e _ _ h n⟩)) (RDs.fr e hs)
  | .tup (.inr h) hs => .tup (.inr h) (RDs.fr e hs)
theorem RDs.fr (e : ∀ a o, H a = some o → Fr m a → Fr m1 a) {vs : List V} {xs : List PyData} : RDs K m H vs xs → RDs K m1 H vs xs
  | .nil => .nil
  | .cons h t => .cons (RD.fr e h) (RDs.fr e t)
end
end

/-! ### a list is given up: it is data from here on -/
def vFrz (w : Val) (S : Sto) (k : KE) : Prop := match w with
  | .d x => k (.d x) S
  | .s _ => False
  | .r i => match S[i]? with
    | some (.lst ws) => match dats ws with
      | some xs => k (.d (.list xs)) (S.set i .dead)
      | none => False
    | _ => False
def wFrz (F : WE) : WE := fun W en S k => F W en S fun w S1 => vFrz w S1 k
theorem frz_ok {K : PySem.W.Frag} {m : Ids} {H : Hp} {S : Sto} {v : V} {w : Val} {k : KE} (r : Rel K m H S) (h : RV K m H v w) (f : vFrz w S k) : Post K m H k v H := by
  unfold vFrz at f
  split at f
  · exact Post.here r h f
  · exact f.elim
  · rename_i i
    split at f
    · rename_i ws e
      obtain ⟨a, rfl, hm, vs, h1, h2⟩ := h.obj r e (by intro z; cases z)
      split at f
      · rename_i xs ed
        have hl : i < m.l.length := (List.getElem?_eq_some_iff.mp hm).1
        have sub : ∀ b, some b ∈ m.l.set i none → some b ∈ m.l := fun b hb => by
          rcases List.mem_or_eq_of_mem_set hb with z | z
          · exact z
          · cases z
        have E : Ext m H ⟨m.l.set i none, m.o⟩ H := ⟨fun b o q n => ⟨fun _ => q, fun z => n (sub b z)⟩, fun j x q => by
          by_cases hj : j = i
          · subst hj
            exact .inr (List.getElem?_set_self hl)
          · exact .inl (by rw [List.getElem?_set_ne (Ne.symm hj)]; exact q), ⟨fun _ q => q, fun _ q => .inl q⟩, fun _ o q => ⟨o, q⟩⟩
        have fa : Fr ⟨m.l.set i none, m.o⟩ a := by
          refine ⟨fun z => ?_, fun z => (r.out a z).2 (List.mem_of_getElem? hm)⟩
          obtain ⟨j, hj, q⟩ := List.getElem_of_mem z
          have q' : (m.l.set i none)[j]? = some (some a) := by rw [List.getElem?_eq_getElem hj, q]
          by_cases hji : j = i
          · subst hji
            rw [List.getElem?_set_self hl] at q'
            cases q'
          · rw [List.getElem?_set_ne (Ne.symm hji)] at q'
            exact hji (r.inj j i a q' hm)
        refine ⟨⟨m.l.set i none, m.o⟩, S.set i .dead, .d (.list xs), E, ?_, .d (.lst h1 fa (RDs.mono E (dats_rel h2 ed))), f⟩
        refine ⟨by simp [r.len], fun j1 j2 b q1 q2 => ?_, fun j x o q1 q2 => ?_, fun j q => ?_, fun j b q => ?_, fun b hb => ⟨(r.out b hb).1, fun z => (r.out b hb).2 (sub b z)⟩, r.tb.same fun q hq => ⟨fun z => (r.tb.fr q hq).1 (sub _ z), (r.tb.fr q hq).2⟩⟩
        · have old : ∀ j, (m.l.set i none)[j]? = some (some b) → m.l[j]? = some (some b) := fun j q => by
            by_cases hj : j = i
            · subst hj
              rw [List.getElem?_set_self hl] at q
              cases q
            · rw [List.getElem?_set_ne (Ne.symm hj)] at q
              exact q
          exact r.inj j1 j2 b (old j1 q1) (old j2 q2)
        · by_cases hj : j = i
          · subst hj
            rw [List.getElem?_set_self (by rw [← r.len]; exact hl)] at q2
            cases q2
            cases x <;> exact True.intro
          · rw [List.getElem?_set_ne (Ne.symm hj)] at q1 q2
            exact (r.ob j x o q1 q2).keep E fun _ _ _ _ q => q
        · by_cases hj : j = i
          · subst hj
            exact List.getElem?_set_self (by rw [← r.len]; exact hl)
          · rw [List.getElem?_set_ne (Ne.symm hj)] at q ⊢
            exact r.dd j q
        · by_cases hj : j = i
          · subst hj
            rw [List.getElem?_set_self hl] at q
            cases q
          · rw [List.getElem?_set_ne (Ne.symm hj)] at q
            exact r.tr j b q
      · exact f.elim
    · exact f.elim
section
variable {X : Cx} {e : Expr} {F : WE}
theorem de_frz (h : DE X e F) : DE X e (wFrz F) := by
  refine ⟨fun B W tk => ⟨fun pins s st H Q I ⟨m, en, S, k, g, f, q⟩ => (h.go B W tk).run pins s st H Q I ⟨m, en, S, _, g, f, fun v H1 p1 => ?_⟩⟩⟩
  obtain ⟨m1, S1, w1, e1, r1, v1, h1⟩ := p1
  exact q v H1 ((frz_ok r1 v1 h1).tr e1)
end

/-! ### objects behind place n are forgotten -/
def refLt (n : Nat) : Val → Prop
  | .d _ => True
  | .s _ => True
  | .r i => i < n
def trimOk (n : Nat) (w : Val) (S : Sto) : Prop := (S.take n).all obPure = true ∧ refLt n w
theorem trim_rel {K : PySem.W.Frag} {m : Ids} {H : Hp} {S : Sto} {n : Nat} (r : Rel K m H S) (p : (S.take n).all obPure = true) : Rel K ⟨m.l.take n, m.o⟩ H (S.take n) := by
  have sub : ∀ b, b ∈ m.l.take n → b ∈ m.l := fun b hb => List.mem_of_mem_take hb
  have at_ : ∀ (i : Nat) (x : Option Addr), (m.l.take n)[i]? = some x → m.l[i]? = some x ∧ i < n := fun i x e => by
    by_cases hi : i < n
    · rw [List.getElem?_take_of_lt hi] at e
      exact ⟨e, hi⟩
    · rw [List.getElem?_take_eq_none (by omega)] at e
      cases e
  have fr : ∀ v x, RD K m H v x → RD K ⟨m.l.take n, m.o⟩ H v x := fun v x h => RD.fr (m1 := ⟨m.l.take n, m.o⟩) (fun a o _ f => ⟨fun z => f.1 (sub _ z), f.2⟩) h
  refine ⟨by simp [r.len], fun i j a e1 e2 => r.inj i j a (at_ i _ e1).1 (at_ j _ e2).1, fun i x o e1 e2 => ?_, fun i e => ?_, fun i a e => r.tr i a (at_ i _ e).1, fun a ha => ⟨(r.out a ha).1, fun z => (r.out a ha).2 (sub _ z)⟩, r.tb.same fun q hq => ⟨fun z => (r.tb.fr q hq).1 (sub _ z), (r.tb.fr q hq).2⟩⟩
  · obtain ⟨e1, hi⟩ := at_ i x e1
    have po : obPure o = true := List.all_eq_true.mp p o (List.mem_of_getElem? e2)
    rw [List.getElem?_take_of_lt hi] at e2
    exact (r.ob i x o e1 e2).pure fr po
  · obtain ⟨e, hi⟩ := at_ i _ e
    rw [List.getElem?_take_of_lt hi]
    exact r.dd i e
theorem trim_ext {m m1 : Ids} {H H1 : Hp} {n : Nat} (e : Ext m H m1 H1) (h : m.l.length ≤ n) : Ext m H ⟨m1.l.take n, m1.o⟩ H1 := by
  refine ⟨fun a o q f => ⟨(e.kp a o q f).1, fun z => (e.kp a o q f).2 (List.mem_of_mem_take z)⟩, fun i x q => ?_, e.out, e.th⟩
  have hi : i < n := Nat.lt_of_lt_of_le (List.getElem?_eq_some_iff.mp q).1 h
  show (m1.l.take n)[i]? = some x ∨ (m1.l.take n)[i]? = some none
  rw [List.getElem?_take_of_lt hi]
  exact e.ids i x q
theorem trim_rv {K : PySem.W.Frag} {m : Ids} {H : Hp} {n : Nat} {v : V} {w : Val} (h : RV K m H v w) (p : refLt n w) : RV K ⟨m.l.take n, m.o⟩ H v w := by
  cases h with
  | d h => exact .d (RD.fr (m1 := ⟨m.l.take n, m.o⟩) (fun a o _ f => ⟨fun z => f.1 (List.mem_of_mem_take z), f.2⟩) h)
  | r h => exact .r (by show (m.l.take n)[_]? = _; rw [List.getElem?_take_of_lt p]; exact h)
  | z h => exact .z (by show (m.l.take n)[_]? = _; rw [List.getElem?_take_of_lt p]; exact h)
  | s h hs =>
    refine .s ?_ (RDs.fr (m1 := ⟨m.l.take n, m.o⟩) (fun a o _ f => ⟨fun z => f.1 (List.mem_of_mem_take z), f.2⟩) hs)
    rcases h with h | h
    · exact .inl ⟨h.1, fun z => h.2.1 (List.mem_of_mem_take z), h.2.2⟩
    · exact .inr h

/-! ### a def's body keeps its promise -/
def startE (N : List Str) (ws : List Val) : Env := ws.map some ++ List.replicate (N.length - ws.length) none
theorem startE_rel {K : PySem.W.Frag} {m : Ids} {H : Hp} {N : List Str} {vs : List V} {ws : List Val} (h : RVs K m H vs ws) : REnv K m H (L2.start N vs) (startE N ws) := by
  have hl := h.length
  refine ⟨by simp [L2.start, startE, hl], fun i w e => ?_⟩
  unfold startE at e
  unfold L2.start
  by_cases hi : i < ws.length
  · rw [List.getElem?_append_left (by simpa using hi)] at e
    rw [List.getElem?_append_left (by simp; omega)]
    rw [List.getElem?_map] at e ⊢
    cases ew : ws[i]? with
    | none => rw [ew] at e; cases e
    | some w' =>
      rw [ew] at e
      cases e
      obtain ⟨v, h1, h2⟩ := RVs.get h ew
      exact ⟨v, by rw [h1]; rfl, h2⟩
  · rw [List.getElem?_append_right (by simp; omega), List.getElem?_replicate] at e
    split at e <;> cases e
/-- what the end of a body is to reach -/
def endRt (sp : Spec) (g : sp.γ) (n : Nat) : KE := fun w S => trimOk (n + sp.x) w S ∧ sp.post g w (S.take (n + sp.x))
def endX (sp : Spec) (g : sp.γ) (n : Nat) : XQ := fun x _ S => (S.take n).all obPure = true ∧ sp.exc g x (S.take n)
def Keeps (N : List Str) (sp : Spec) (G : WS) : Prop := ∀ (g : sp.γ) (ws : List Val) (S : Sto), ws.length = sp.n → sp.pre g ws S → G (endX sp g S.length) ⟨fun _ S' => endRt sp g S.length (.d .none) S', endRt sp g S.length, fun _ _ => False, fun _ _ => False⟩ (startE N ws) S
section
variable {P : Program} {w : World} {K : PySem.W.Frag} {mg : Str → Option Value} {base : Heap}
theorem fd_of {x qual : Str} {st : Stmt} {f : Addr} {fd : FuncData} {N ps : List Str} {k : Nat} {sp : Spec} {G : WS} (F : L2.Fun K x qual st f fd) (S : FnScope N ps (defScope st)) (hn : ps.length = sp.n)
    (body : ∀ (cdv : Value) (A : Around) (outer : List PySem.Env) (s : Shared) (H : Hp) (E : XK), Room k (A.deeper (envOfC qual (defScope st) s.heap.objs.size f cdv)) → DSs (cxOf (L2.CX P w) P w K mg base N qual (defScope st) f cdv A outer s H E) (defBody st) G)
    (sem : Keeps N sp G) : FnOk P w K mg base (L2.CX P w) (k + 1) f fd ps (liftSp K mg sp) := by
  refine F.okX S (fun vs H Q E h => h.1.trans hn.symm) fun cdv A outer s H vs Q E hr h => ?_
  obtain ⟨hl, m, ws, So, g, r, v, hp, hQ, hE⟩ := h
  have hws : ws.length = sp.n := v.length.symm.trans hl
  refine ⟨_, (body cdv A outer s H E hr).go (m, H) (endX sp g So.length) ?_, m, startE N ws, So, _, ⟨Ext.refl, r, startE_rel v⟩, sem g ws So hws hp, fun st' H' p => ?_, fun v' H' p => ?_, fun st' H' p => ?_, fun st' H' p => ?_⟩
  · refine (takes_of (E := E) rfl rfl rfl rfl).imp fun cls d st' H' hx => ?_
    obtain ⟨m', en, S', x, e', r', g', x', p1, p2⟩ := hx
    refine hE cls d H' ⟨⟨m'.l.take So.length, m'.o⟩, S'.take So.length, x, trim_ext e' (by rw [r.len]; exact Nat.le_refl _), trim_rel r' p1, ?_, p2⟩
    obtain ⟨C, dd, v, a1, a2, a3, a4, a5, a6, a7⟩ := x'
    refine ⟨C, dd, v, a1, a2, a3, a4, ?_, ?_, a7⟩
    exact ⟨fun z => a5.1 (List.mem_of_mem_take z), a5.2⟩
    exact RD.fr (m1 := ⟨m'.l.take So.length, m'.o⟩) (fun a o _ f => ⟨fun z => f.1 (List.mem_of_mem_take z), f.2⟩) a6
  · obtain ⟨m', S', en', e', r', g', p1, p2⟩ := p
    exact hQ _ _ ⟨⟨m'.l.take (So.length + sp.x), m'.o⟩, S'.take (So.length + sp.x), _, trim_ext e' (by rw [r.len]; exact Nat.le_add_right _ _), trim_rel r' p1.1, .d .non, p2⟩
  · obtain ⟨m', S', w', e', r', v', p1, p2⟩ := p
    exact hQ _ _ ⟨⟨m'.l.take (So.length + sp.x), m'.o⟩, S'.take (So.length + sp.x), _, trim_ext e' (by rw [r.len]; exact Nat.le_add_right _ _), trim_rel r' p1.1, trim_rv v' p1.2, p2⟩
  · obtain ⟨_, _, _, _, _, _, z⟩ := p
    exact z.elim
  · obtain ⟨_, _, _, _, _, _, z⟩ := p
    exact z.elim
end

/-! ### the call of an own def, seen by the objects that are handed in -/
def refsOf : List Val → List Nat
  | [] => []
  | .d _ :: r => refsOf r
  | .s _ :: r => refsOf r
  | .r i :: r => i :: (refsOf r).filter fun j => j ≠ i
def putAll {α : Type} (l : List α) : List Nat → List α → List α
  | j :: js, x :: xs => putAll (l.set j x) js xs
  | _, _ => l
def frame (S : Sto) : List Nat → Option Sto
  | [] => some []
  | j :: js => match S[j]? with
    | some o => if obPure o = true then match frame S js with
      | some T => some (o :: T)
      | none => none else none
    | none => none
def ren (js : List Nat) : Val → Val
  | .d x => .d x
  | .s x => .s x
  | .r i => .r (js.idxOf i)
def emb (js : List Nat) (n : Nat) : Val → Val
  | .d x => .d x
  | .s x => .s x
  | .r i => .r (match js[i]? with
    | some j => j
    | none => n + (i - js.length))
def back (S : Sto) (js : List Nat) (T : Sto) : Sto := putAll S js T ++ T.drop js.length
/-- a call: what follows a value, an exception -/
def callF (sp : Spec) (ws : List Val) (S : Sto) (k : KE) (kx : Exc → Sto → Prop) : Prop := ws.length = sp.n ∧ match frame S (refsOf ws) with
  | some T => ∃ g, sp.pre g (ws.map (ren (refsOf ws))) T ∧
      (∀ w T', sp.post g w T' → T.length ≤ T'.length ∧ T'.all obPure = true ∧ k (emb (refsOf ws) S.length w) (back S (refsOf ws) T')) ∧
      ∀ x T', sp.exc g x T' → T.length ≤ T'.length ∧ T'.all obPure = true ∧ kx x (back S (refsOf ws) T')
  | none => False
/-- the same over the whole store -/
def callW (sp : Spec) (ws : List Val) (S : Sto) (k : KE) (kx : Exc → Sto → Prop) : Prop := ws.length = sp.n ∧ ∃ g, sp.pre g ws S ∧ (∀ w S', sp.post g w S' → k w S') ∧ ∀ x S', sp.exc g x S' → kx x S'
def wCall (sp : Spec) (G : WA) : WE := fun W en S k => G W en S fun ws S1 => callF sp ws S1 k fun x S2 => W x en S2
def wCallW (sp : Spec) (G : WA) : WE := fun W en S k => G W en S fun ws S1 => callW sp ws S1 k fun x S2 => W x en S2
section
theorem putAll_len {α : Type} : ∀ (js : List Nat) (xs l : List α), (putAll l js xs).length = l.length
  | [], _, _ => by unfold putAll; rfl
  | _ :: _, [], _ => by unfold putAll; rfl
  | j :: js, x :: xs, l => by
    unfold putAll
    rw [putAll_len js xs, List.length_set]
theorem putAll_out {α : Type} {i : Nat} : ∀ (js : List Nat) (xs l : List α), i ∉ js → (putAll l js xs)[i]? = l[i]?
  | [], _, _, _ => by unfold putAll; rfl
  | _ :: _, [], _, _ => by unfold putAll; rfl
  | j :: js, x :: xs, l, h => by
    unfold putAll
    rw [putAll_out js xs _ fun z => h (List.mem_cons_of_mem _ z), List.getElem?_set_ne fun z => h (by rw [← z]; exact List.mem_cons_self)]
theorem putAll_in {α : Type} {i k : Nat} {x : α} : ∀ (js : List Nat) (xs l : List α), js.Nodup → js[k]? = some i → xs[k]? = some x → i < l.length → (putAll l js xs)[i]? = some x
  | [], _, _, _, h, _, _ => by simp at h
  | _ :: _, [], _, _, _, h, _ => by simp at h
  | j :: js, y :: xs, l, nd, h1, h2, hl => by
    unfold putAll
    rw [List.nodup_cons] at nd
    cases k with
    | zero =>
      simp at h1 h2
      subst h1 h2
      rw [putAll_out js xs _ nd.1, List.getElem?_set_self hl]
    | succ k => exact putAll_in js xs _ nd.2 (by simpa using h1) (by simpa using h2) (by simpa using hl)
theorem refsOf_mem {i : Nat} : ∀ {ws : List Val}, Val.r i ∈ ws → i ∈ refsOf ws
  | .d x :: r, h => by
    rcases List.mem_cons.mp h with h | h
    · cases h
    · exact refsOf_mem (ws := r) h
  | .s x :: r, h => by
    rcases List.mem_cons.mp h with h | h
    · cases h
    · exact refsOf_mem (ws := r) h
  | .r j :: r, h => by
    unfold refsOf
    rcases List.mem_cons.mp h with h | h
    · cases h
      exact List.mem_cons_self
    · by_cases z : i = j
      · rw [z]
        exact List.mem_cons_self
      · exact List.mem_cons_of_mem _ (List.mem_filter.mpr ⟨refsOf_mem h, decide_eq_true z⟩)
theorem refsOf_nodup : ∀ ws : List Val, (refsOf ws).Nodup
  | [] => List.nodup_nil
  | .d x :: r => refsOf_nodup r
  | .s x :: r => refsOf_nodup r
  | .r j :: r => by
    unfold refsOf
    rw [List.nodup_cons]
    refine ⟨fun z => ?_, (refsOf_nodup r).filter _⟩
    have q := (List.mem_filter.mp z).2
    simp at q
theorem frame_get {S : Sto} : ∀ {js : List Nat} {T : Sto}, frame S js = some T → T.length = js.length ∧ T.all obPure = true ∧ ∀ (k j : Nat), js[k]? = some j → ∃ o, S[j]? = some o ∧ T[k]? = some o
  | [], T, h => by
    cases h
    exact ⟨rfl, rfl, fun k j e => by simp at e⟩
  | j :: js, T, h => by
    unfold frame at h
    split at h
    · rename_i o eo
      split at h
      · rename_i po
        split at h
        · rename_i T' eT
          cases h
          obtain ⟨h1, h2, h3⟩ := frame_get eT
          refine ⟨by simp [h1], by rw [List.all_cons, po, h2]; rfl, fun k j' e => ?_⟩
          cases k with
          | zero =>
            simp at e
            subst e
            exact ⟨o, eo, rfl⟩
          | succ k =>
            obtain ⟨o', a, b⟩ := h3 k j' (by simpa using e)
            exact ⟨o', a, by simpa using b⟩
        · cases h
      · cases h
    · cases h
/-- the callee's view of the objects -/
def Ids.view (m : Ids) (js : List Nat) : Ids := ⟨js.map fun j => (m.l[j]?).join, m.o ++ (m.l.filterMap id).filter fun a => some a ∉ js.map fun j => (m.l[j]?).join⟩
def Ids.bk (m : Ids) (js : List Nat) (m' : Ids) : Ids := ⟨putAll m.l js m'.l ++ m'.l.drop js.length, m.o⟩
variable {K : PySem.W.Frag} {m : Ids} {H : Hp} {S T : Sto} {js : List Nat}
theorem view_at {k j : Nat} (h : js[k]? = some j) : (m.view js).l[k]? = some ((m.l[j]?).join) := by
  show (js.map fun j => (m.l[j]?).join)[k]? = _
  rw [List.getElem?_map, h]
  rfl
theorem view_sub (r : Rel K m H S) {a : Addr} (h : some a ∈ (m.view js).l) : ∃ k j : Nat, js[k]? = some j ∧ m.l[j]? = some (some a) := by
  obtain ⟨k, hk, e⟩ := List.getElem_of_mem h
  have e' : (js.map fun j => (m.l[j]?).join)[k]? = some (some a) := by
    have := List.getElem?_eq_getElem hk
    rw [e] at this
    exact this
  rw [List.getElem?_map] at e'
  cases q : js[k]? with
  | none => rw [q] at e'; cases e'
  | some j =>
    rw [q] at e'
    exact ⟨k, j, q, join_some (Option.some.inj e')⟩
theorem view_o {a : Addr} (h : some a ∈ m.l) (n : some a ∉ (m.view js).l) : a ∈ (m.view js).o := List.mem_append_right _ (List.mem_filter.mpr ⟨List.mem_filterMap.mpr ⟨some a, h, rfl⟩, decide_eq_true n⟩)
theorem view_fr (r : Rel K m H S) {a : Addr} (n : Fr m a) : Fr (m.view js) a := by
  refine ⟨fun z => ?_, fun z => ?_⟩
  · obtain ⟨k, j, _, e⟩ := view_sub r z
    exact n.1 (List.mem_of_getElem? e)
  · rcases List.mem_append.mp z with z | z
    · exact n.2 z
    · obtain ⟨b, hb, e⟩ := List.mem_filterMap.mp (List.mem_filter.mp z).1
      have e' : b = some a := e
      rw [e'] at hb
      exact n.1 hb
theorem view_rel (r : Rel K m H S) (nd : js.Nodup) (hT : frame S js = some T) : Rel K (m.view js) H T := by
  obtain ⟨t1, t2, t3⟩ := frame_get hT
  have len : (m.view js).l.length = js.length := by
    show (js.map _).length = _
    rw [List.length_map]
  have at_ : ∀ (k : Nat) (x : Option Addr), (m.view js).l[k]? = some x → ∃ j, js[k]? = some j ∧ m.l[j]? = some x := fun k x e => by
    have hk : k < js.length := by rw [← len]; exact (List.getElem?_eq_some_iff.mp e).1
    refine ⟨js[k], List.getElem?_eq_getElem hk, ?_⟩
    rw [view_at (List.getElem?_eq_getElem hk)] at e
    obtain ⟨o, a, _⟩ := t3 k _ (List.getElem?_eq_getElem hk)
    obtain ⟨y, b, _⟩ := r.at_ a
    rw [b] at e ⊢
    cases e
    rfl
  refine ⟨by rw [len, t1], fun i j a e1 e2 => ?_, fun i x o e1 e2 => ?_, fun i e => ?_, fun i a e => ?_, fun a ha => ?_, r.tb.same fun q hq => view_fr r (r.tb.fr q hq)⟩
  · obtain ⟨j1, a1, b1⟩ := at_ i _ e1
    obtain ⟨j2, a2, b2⟩ := at_ j _ e2
    have e := r.inj j1 j2 a b1 b2
    subst e
    exact (List.getElem?_inj (List.getElem?_eq_some_iff.mp a1).1 nd).mp (a1.trans a2.symm)
  · obtain ⟨j1, a1, b1⟩ := at_ i _ e1
    obtain ⟨o', c1, c2⟩ := t3 i j1 a1
    rw [e2] at c2
    cases c2
    exact (r.ob j1 x o b1 c1).pure (fun v z h => h.fr fun a o _ f => view_fr r f) (List.all_eq_true.mp t2 o (List.mem_of_getElem? e2))
  · obtain ⟨j1, a1, b1⟩ := at_ i _ e
    obtain ⟨o', c1, c2⟩ := t3 i j1 a1
    rw [c2, ← c1]
    exact r.dd j1 b1
  · obtain ⟨j1, a1, b1⟩ := at_ i _ e
    exact r.tr j1 a b1
  · rcases List.mem_append.mp ha with z | z
    · refine ⟨(r.out a z).1, fun q => ?_⟩
      obtain ⟨k, j, _, e⟩ := view_sub r q
      exact (r.out a z).2 (List.mem_of_getElem? e)
    · obtain ⟨z1, z2⟩ := List.mem_filter.mp z
      obtain ⟨b, hb, e⟩ := List.mem_filterMap.mp z1
      have e' : b = some a := e
      rw [e'] at hb
      obtain ⟨i, hi, q⟩ := List.getElem_of_mem hb
      exact ⟨r.tr i a (by rw [List.getElem?_eq_getElem hi, q]), of_decide_eq_true z2⟩
theorem idx_at {i : Nat} (h : i ∈ js) : js[js.idxOf i]? = some i := by
  rw [List.getElem?_eq_getElem (List.idxOf_lt_length_of_mem h), List.getElem_idxOf]
theorem view_vals (r : Rel K m H S) (hT : frame S js = some T) : ∀ {vs : List V} {ws : List Val}, (∀ i, Val.r i ∈ ws → i ∈ js) → RVs K m H vs ws → RVs K (m.view js) H vs (ws.map (ren js))
  | _, _, _, .nil => .nil
  | _, _, hi, .cons h t => by
    refine .cons ?_ (view_vals r hT (fun i hi' => hi i (List.mem_cons_of_mem _ hi')) t)
    cases h with
    | d h => exact .d (h.fr fun a o _ f => view_fr r f)
    | r h =>
      rename_i i
      have q := view_at (m := m) (idx_at (hi i List.mem_cons_self))
      rw [h] at q
      exact .r q
    | z h =>
      rename_i i
      have q := view_at (m := m) (idx_at (hi i List.mem_cons_self))
      rw [h] at q
      exact .z q
    | s h hs =>
      refine .s ?_ (RDs.fr (fun a o _ f => view_fr r f) hs)
      rcases h with h | h
      · exact .inl ⟨h.1, view_fr r h.2⟩
      · exact .inr h
/-- behind the call -/
theorem back_ok (r : Rel K m H S) (nd : js.Nodup) (hT : frame S js = some T) {m' : Ids} {H' : Hp} {T' : Sto} (e : Ext (m.view js) H m' H') (r' : Rel K m' H' T') (hl : T.length ≤ T'.length) (pu : T'.all obPure = true) :
    Ext m H (m.bk js m') H' ∧ Rel K (m.bk js m') H' (back S js T') ∧ ∀ v w, RV K m' H' v w → RV K (m.bk js m') H' v (emb js S.length w) := by
  obtain ⟨t1, t2, t3⟩ := frame_get hT
  have hjl : js.length ≤ m'.l.length := by rw [r'.len, ← t1]; exact hl
  have len : (putAll m.l js m'.l).length = m.l.length := putAll_len js m'.l m.l
  have lenS : (putAll S js T').length = S.length := putAll_len js T' S
  have jin : ∀ {k j : Nat}, js[k]? = some j → j < m.l.length := fun {k j} h => by
    obtain ⟨o, a, _⟩ := t3 k j h
    rw [r.len]
    exact (List.getElem?_eq_some_iff.mp a).1
  -- an old place: not handed in, or handed in
  have old : ∀ {i : Nat} {x : Option Addr}, i < m.l.length → (m.bk js m').l[i]? = some x → (i ∉ js ∧ m.l[i]? = some x) ∨ ∃ k, js[k]? = some i ∧ m'.l[k]? = some x := fun {i x} hi h => by
    have h : (putAll m.l js m'.l ++ m'.l.drop js.length)[i]? = some x := h
    rw [List.getElem?_append_left (by rw [len]; exact hi)] at h
    by_cases hj : i ∈ js
    · have hk := idx_at hj
      have hk2 : js.idxOf i < m'.l.length := Nat.lt_of_lt_of_le (List.idxOf_lt_length_of_mem hj) hjl
      rw [putAll_in js m'.l m.l nd hk (List.getElem?_eq_getElem hk2) hi] at h
      exact .inr ⟨_, hk, by rw [List.getElem?_eq_getElem hk2]; exact h⟩
    · rw [putAll_out js m'.l m.l hj] at h
      exact .inl ⟨hj, h⟩
  have new : ∀ {i : Nat} {x : Option Addr}, ¬ i < m.l.length → (m.bk js m').l[i]? = some x → m'.l[js.length + (i - m.l.length)]? = some x := fun {i x} hi h => by
    have h : (putAll m.l js m'.l ++ m'.l.drop js.length)[i]? = some x := h
    rw [List.getElem?_append_right (by rw [len]; omega), len, List.getElem?_drop] at h
    exact h
  have oldS : ∀ {i : Nat}, i < m.l.length → i ∉ js → (back S js T')[i]? = S[i]? := fun {i} hi hj => by
    show (putAll S js T' ++ T'.drop js.length)[i]? = _
    rw [List.getElem?_append_left (by rw [lenS, ← r.len]; exact hi), putAll_out js T' S hj]
  have oldT : ∀ {i k : Nat}, js[k]? = some i → (back S js T')[i]? = T'[k]? := fun {i k} hk => by
    have hk2 : k < T'.length := Nat.lt_of_lt_of_le (List.getElem?_eq_some_iff.mp hk).1 (by rw [← t1]; exact hl)
    show (putAll S js T' ++ T'.drop js.length)[i]? = _
    rw [List.getElem?_append_left (by rw [lenS, ← r.len]; exact jin hk), List.getElem?_eq_getElem hk2]
    exact putAll_in js T' S nd hk (List.getElem?_eq_getElem hk2) (by rw [← r.len]; exact jin hk)
  have newS : ∀ {i : Nat}, ¬ i < m.l.length → (back S js T')[i]? = T'[js.length + (i - m.l.length)]? := fun {i} hi => by
    show (putAll S js T' ++ T'.drop js.length)[i]? = _
    rw [List.getElem?_append_right (by rw [lenS, ← r.len]; omega), lenS, List.getElem?_drop, r.len]
  -- where its addresses are from
  have from_ : ∀ {a : Addr}, some a ∈ (m.bk js m').l → some a ∈ m'.l ∨ (some a ∈ m.l ∧ a ∈ m'.o) := fun {a} h => by
    obtain ⟨i, hi, q⟩ := List.getElem_of_mem h
    have q' : (m.bk js m').l[i]? = some (some a) := by rw [List.getElem?_eq_getElem hi, q]
    by_cases hlt : i < m.l.length
    · rcases old hlt q' with ⟨h1, h2⟩ | ⟨k, _, h2⟩
      · refine .inr ⟨List.mem_of_getElem? h2, e.out.1 _ (view_o (List.mem_of_getElem? h2) fun z => ?_)⟩
        obtain ⟨k, j, z1, z2⟩ := view_sub r z
        have ij := r.inj i j a h2 z2
        subst ij
        exact h1 (List.mem_of_getElem? z1)
      · exact .inl (List.mem_of_getElem? h2)
    · exact .inl (List.mem_of_getElem? (new hlt q'))
  have nview : ∀ {a : Addr}, some a ∉ m.l → some a ∉ (m.view js).l := fun {a} n z => by
    obtain ⟨k, j, _, q⟩ := view_sub r z
    exact n (List.mem_of_getElem? q)
  have E : Ext m H (m.bk js m') H' := by
    refine ⟨fun a o q n => ⟨(e.kp a o q (nview n)).1, fun z => ?_⟩, fun i x q => ?_, ⟨fun _ z => z, fun _ z => .inl z⟩, e.th⟩
    · rcases from_ z with z | z
      · exact (e.kp a o q (nview n)).2 z
      · exact n z.1
    · have hi : i < m.l.length := (List.getElem?_eq_some_iff.mp q).1
      show (putAll m.l js m'.l ++ m'.l.drop js.length)[i]? = some x ∨ (putAll m.l js m'.l ++ m'.l.drop js.length)[i]? = some none
      rw [List.getElem?_append_left (by rw [len]; exact hi)]
      by_cases hj : i ∈ js
      · have hk := idx_at hj
        have hk2 : js.idxOf i < m'.l.length := Nat.lt_of_lt_of_le (List.idxOf_lt_length_of_mem hj) hjl
        rw [putAll_in js m'.l m.l nd hk (List.getElem?_eq_getElem hk2) hi]
        have z := e.ids (js.idxOf i) x (by rw [view_at hk, q]; rfl)
        rw [List.getElem?_eq_getElem hk2] at z
        exact z
      · rw [putAll_out js m'.l m.l hj]
        exact .inl q
  have frb : ∀ {a : Addr}, Fr m' a → Fr (m.bk js m') a := fun {a} f => ⟨fun z => by
    rcases from_ z with z | z
    · exact f.1 z
    · exact f.2 z.2, fun z => f.2 (e.out.1 _ (List.mem_append_left _ z))⟩
  refine ⟨E, ⟨?_, fun i j a e1 e2 => ?_, fun i x o e1 e2 => ?_, fun i q => ?_, fun i a q => ?_, fun a ha => ?_, r'.tb.same fun q hq => frb (r'.tb.fr q hq)⟩, fun v w h => ?_⟩
  · show (putAll m.l js m'.l ++ m'.l.drop js.length).length = (putAll S js T' ++ T'.drop js.length).length
    rw [List.length_append, List.length_append, len, lenS, r.len, List.length_drop, List.length_drop, r'.len]
  · -- no address twice
    have out' : ∀ {i k : Nat} {a : Addr}, i ∉ js → m.l[i]? = some (some a) → m'.l[k]? = some (some a) → False := fun {i k a} n h1 h2 => by
      refine (r'.out a (e.out.1 _ (view_o (List.mem_of_getElem? h1) fun z => ?_))).2 (List.mem_of_getElem? h2)
      obtain ⟨k, j, z1, z2⟩ := view_sub r z
      have ij := r.inj i j a h1 z2
      subst ij
      exact n (List.mem_of_getElem? z1)
    by_cases h1 : i < m.l.length
    · by_cases h2 : j < m.l.length
      · rcases old h1 e1 with ⟨a1, b1⟩ | ⟨k1, a1, b1⟩
        · rcases old h2 e2 with ⟨a2, b2⟩ | ⟨k2, a2, b2⟩
          · exact r.inj i j a b1 b2
          · exact (out' a1 b1 b2).elim
        · rcases old h2 e2 with ⟨a2, b2⟩ | ⟨k2, a2, b2⟩
          · exact (out' a2 b2 b1).elim
          · have z := r'.inj k1 k2 a b1 b2
            subst z
            rw [a1] at a2
            exact Option.some.inj a2
      · rcases old h1 e1 with ⟨a1, b1⟩ | ⟨k1, a1, b1⟩
        · exact (out' a1 b1 (new h2 e2)).elim
        · have z := r'.inj k1 _ a b1 (new h2 e2)
          have hk := (List.getElem?_eq_some_iff.mp a1).1
          omega
    · by_cases h2 : j < m.l.length
      · rcases old h2 e2 with ⟨a2, b2⟩ | ⟨k2, a2, b2⟩
        · exact (out' a2 b2 (new h1 e1)).elim
        · have z := r'.inj k2 _ a b2 (new h1 e1)
          have hk := (List.getElem?_eq_some_iff.mp a2).1
          omega
      · have z := r'.inj _ _ a (new h1 e1) (new h2 e2)
        omega
  · have pt : ∀ {k : Nat}, T'[k]? = some o → obPure o = true := fun h => List.all_eq_true.mp pu o (List.mem_of_getElem? h)
    by_cases h1 : i < m.l.length
    · rcases old h1 e1 with ⟨a1, b1⟩ | ⟨k1, a1, b1⟩
      · rw [oldS h1 a1] at e2
        refine (r.ob i x o b1 e2).keep E fun a ea u nt hu => ?_
        subst ea
        refine ((e.kp a u hu fun z => ?_).1 nt)
        obtain ⟨k, j, z1, z2⟩ := view_sub r z
        have ij := r.inj i j a b1 z2
        subst ij
        exact a1 (List.mem_of_getElem? z1)
      · rw [oldT a1] at e2
        exact (r'.ob k1 x o b1 e2).pure (fun v z h => h.fr fun a o _ f => frb f) (pt e2)
    · rw [newS h1] at e2
      exact (r'.ob _ x o (new h1 e1) e2).pure (fun v z h => h.fr fun a o _ f => frb f) (pt e2)
  · by_cases h1 : i < m.l.length
    · rcases old h1 q with ⟨a1, b1⟩ | ⟨k1, a1, b1⟩
      · rw [oldS h1 a1]
        exact r.dd i b1
      · rw [oldT a1]
        exact r'.dd k1 b1
    · rw [newS h1]
      exact r'.dd _ (new h1 q)
  · by_cases h1 : i < m.l.length
    · rcases old h1 q with ⟨a1, b1⟩ | ⟨k1, a1, b1⟩
      · obtain ⟨o, z⟩ := r.tr i a b1
        exact e.th a o z
      · exact r'.tr k1 a b1
    · exact r'.tr _ a (new h1 q)
  · obtain ⟨⟨o, q⟩, n⟩ := r.out a ha
    refine ⟨e.th a o q, fun z => ?_⟩
    rcases from_ z with z | z
    · exact (r'.out a (e.out.1 _ (List.mem_append_left _ ha))).2 z
    · exact n z.1
  · have at_ : ∀ {i : Nat} {x : Option Addr}, m'.l[i]? = some x → (m.bk js m').l[match js[i]? with
      | some j => j
      | none => S.length + (i - js.length)]? = some x := fun {i x} q => by
      show (putAll m.l js m'.l ++ m'.l.drop js.length)[_]? = some x
      cases hj : js[i]? with
      | some j =>
        dsimp only
        rw [List.getElem?_append_left (by rw [len]; exact jin hj)]
        exact putAll_in js m'.l m.l nd hj q (jin hj)
      | none =>
        dsimp only
        have hi : js.length ≤ i := List.getElem?_eq_none_iff.mp hj
        rw [← r.len, List.getElem?_append_right (by rw [len]; exact Nat.le_add_right _ _), len, List.getElem?_drop]
        have z : js.length + (m.l.length + (i - js.length) - m.l.length) = i := by rw [Nat.add_sub_cancel_left]; omega
        rw [z]
        exact q
    cases h with
    | d h => exact .d (h.fr fun a o _ f => frb f)
    | r h => exact .r (at_ h)
    | z h => exact .z (at_ h)
    | s h hs =>
      refine .s ?_ (RDs.fr (fun a o _ f => frb f) hs)
      rcases h with h | h
      · exact .inl ⟨h.1, frb h.2⟩
      · exact .inr h
end
section
variable {X : Cx} {k : Nat} {f : Addr} {fd : FuncData} {ps : List Str} {sp : Spec} {x : Str} {p pos : Pos} {e : Expr} {es : List Expr} {G : WA}
theorem lift_call {B : Bs} {W : XQ} {st : L2.St} {H : Hp} {Q : VK} {m : Ids} {en : Env} {S : Sto} {k : KE} {vs : List V} {ws : List Val} (g : Stg X.K B m H S st en) (v : RVs X.K m H vs ws) (h : callF sp ws S k fun x S2 => W x en S2) (q : ∀ v H', Post X.K m H k v H' → Q v H') :
    liftSp X.K X.mg sp vs H Q (L2.WE (lX X B W) st) := by
  obtain ⟨hn, h⟩ := h
  cases hT : frame S (refsOf ws) with
  | none =>
    rw [hT] at h
    exact h.elim
  | some T =>
    rw [hT] at h
    obtain ⟨gg, h1, h2, h3⟩ := h
    have nd := refsOf_nodup ws
    refine ⟨v.length.trans hn, m.view (refsOf ws), ws.map (ren (refsOf ws)), T, gg, view_rel g.rel nd hT, view_vals g.rel hT (fun i hi => refsOf_mem hi) v, h1, fun v' H' p => ?_, fun cls d H' p => ?_⟩
    · obtain ⟨m', T', w', e', r', v1, p1⟩ := p
      obtain ⟨a1, a2, a3⟩ := h2 w' T' p1
      obtain ⟨b1, b2, b3⟩ := back_ok g.rel nd hT e' r' a1 a2
      exact q _ _ ⟨_, _, _, b1, b2, b3 _ _ v1, a3⟩
    · obtain ⟨m', T', x', e', r', ⟨C, dd, v1, c1, c2, c3, c4, c5, c6, c7⟩, p1⟩ := p
      obtain ⟨a1, a2, a3⟩ := h3 x' T' p1
      obtain ⟨b1, b2, b3⟩ := back_ok g.rel nd hT e' r' a1 a2
      have fr : ∀ (v : V) (x : PyData), RD X.K m' H' v x → RD X.K (m.bk (refsOf ws) m') H' v x := fun v x h => by
        have z := b3 v (.d x) (.d h)
        cases z with
        | d z => exact z
      refine ⟨_, en, _, x', g.ex.trans b1, b2, g.env.mono b1, ⟨C, dd, v1, c1, c2, c3, c4, ?_, ⟨fr _ _ c6, c7⟩⟩, a3⟩
      -- the error's own dict is no mutable object's
      refine ⟨fun z => ?_, fun z => c5.2 (e'.out.1 _ (List.mem_append_left _ z))⟩
      obtain ⟨i, hi, qq⟩ := List.getElem_of_mem z
      have q' : (m.bk (refsOf ws) m').l[i]? = some (some dd) := by rw [List.getElem?_eq_getElem hi, qq]
      have cls : ∃ o, H' dd = some o ∧ ∀ ob, o ≠ ob → True := ⟨_, c4, fun _ _ => True.intro⟩
      obtain ⟨t1, t2, t3⟩ := frame_get hT
      have hjl : (refsOf ws).length ≤ m'.l.length := by rw [r'.len, ← t1]; exact a1
      have len : (putAll m.l (refsOf ws) m'.l).length = m.l.length := putAll_len _ m'.l m.l
      have q2 : (putAll m.l (refsOf ws) m'.l ++ m'.l.drop (refsOf ws).length)[i]? = some (some dd) := q'
      by_cases hlt : i < m.l.length
      · rw [List.getElem?_append_left (by rw [len]; exact hlt)] at q2
        by_cases hj : i ∈ refsOf ws
        · have hk := idx_at hj
          have hk2 : (refsOf ws).idxOf i < m'.l.length := Nat.lt_of_lt_of_le (List.idxOf_lt_length_of_mem hj) hjl
          rw [putAll_in _ m'.l m.l nd hk (List.getElem?_eq_getElem hk2) hlt] at q2
          exact c5.1 (by rw [← Option.some.inj q2]; exact List.getElem_mem hk2)
        · rw [putAll_out _ m'.l m.l hj] at q2
          refine c5.2 (e'.out.1 _ (view_o (List.mem_of_getElem? q2) fun z => ?_))
          obtain ⟨k', j, z1, z2⟩ := view_sub g.rel z
          have ij := g.rel.inj i j dd q2 z2
          subst ij
          exact hj (List.mem_of_getElem? z1)
      · rw [List.getElem?_append_right (by rw [len]; omega)] at q2
        exact c5.1 (List.mem_of_mem_drop (List.mem_of_getElem? q2))
theorem lift_callW {B : Bs} {W : XQ} {st : L2.St} {H : Hp} {Q : VK} {m : Ids} {en : Env} {S : Sto} {k : KE} {vs : List V} {ws : List Val} (g : Stg X.K B m H S st en) (v : RVs X.K m H vs ws) (h : callW sp ws S k fun x S2 => W x en S2) (q : ∀ v H', Post X.K m H k v H' → Q v H') :
    liftSp X.K X.mg sp vs H Q (L2.WE (lX X B W) st) := by
  obtain ⟨hn, gg, h1, h2, h3⟩ := h
  refine ⟨v.length.trans hn, m, ws, S, gg, g.rel, v, h1, fun v' H' p => ?_, fun cls d H' p => ?_⟩
  · obtain ⟨m', S', w', e', r', v1, p1⟩ := p
    exact q _ _ ⟨m', S', w', e', r', v1, h2 w' S' p1⟩
  · obtain ⟨m', S', x', e', r', x1, p1⟩ := p
    exact ⟨m', en, S', x', g.ex.trans e', r', g.env.mono e', x1, h3 x' S' p1⟩
theorem de_call (F : FnOk X.prog X.w X.K X.mg X.base (L2.CX X.prog X.w) k f fd ps (liftSp X.K X.mg sp)) (hr : Room k X.A) (hg : Gl X x) (hm : X.mg x = some (.ref f)) (hk : PySem.W.keepIn X.K (.ref f) = true) (hb : Binds X.K fd ps [])
    (ha : DA X (e :: es) G) (hdb : (x == ("__debug__" : Str)) = false := by decide) (he : starEach (e :: es) X.env = (false, eval e X.env) :: starEach es X.env := by rfl) (hpl : (backTo pos (starEach es X.env)).any (·.1) = false := by rfl) :
    DE X (.Call (.Name x p) (e :: es) [] pos) (wCall sp G) := by
  refine ⟨fun B W tk => ⟨fun pins s st H Q I ⟨m, en, S, k, g, f, q⟩ => (pe_callS F hr hg hm hk hb (fun st => passAt tk st) (ha.go B W tk) hdb he hpl).run pins s st H Q I ⟨m, en, S, _, g, f, fun vs H1 p1 => ?_⟩⟩⟩
  obtain ⟨m1, S1, w1, e1, r1, v1, h1⟩ := p1
  exact lift_call (g.next e1 r1) v1 h1 fun v' H' p => q v' H' (p.tr e1)
theorem de_callW (F : FnOk X.prog X.w X.K X.mg X.base (L2.CX X.prog X.w) k f fd ps (liftSp X.K X.mg sp)) (hr : Room k X.A) (hg : Gl X x) (hm : X.mg x = some (.ref f)) (hk : PySem.W.keepIn X.K (.ref f) = true) (hb : Binds X.K fd ps [])
    (ha : DA X (e :: es) G) (hdb : (x == ("__debug__" : Str)) = false := by decide) (he : starEach (e :: es) X.env = (false, eval e X.env) :: starEach es X.env := by rfl) (hpl : (backTo pos (starEach es X.env)).any (·.1) = false := by rfl) :
    DE X (.Call (.Name x p) (e :: es) [] pos) (wCallW sp G) := by
  refine ⟨fun B W tk => ⟨fun pins s st H Q I ⟨m, en, S, k, g, f, q⟩ => (pe_callS F hr hg hm hk hb (fun st => passAt tk st) (ha.go B W tk) hdb he hpl).run pins s st H Q I ⟨m, en, S, _, g, f, fun vs H1 p1 => ?_⟩⟩⟩
  obtain ⟨m1, S1, w1, e1, r1, v1, h1⟩ := p1
  exact lift_callW (g.next e1 r1) v1 h1 fun v' H' p => q v' H' (p.tr e1)
end
end DL

set_option Elab.async false
set_option linter.all false
set_option maxRecDepth 100000
set_option maxHeartbeats 4000000
/-! DL10: methods of lists; repr. -/
namespace DL
open PySem PySem.Spec PyProof.Rows L2

def vAppend : RMD := fun x ws S k => match x, ws with
  | .r i, [w] => match S[i]? with
    | some (.lst xs) => xs.length < 1000000 ∧ k (.d .none) (S.set i (.lst (xs ++ [w])))
    | _ => False
  | _, _ => False
def vPop : RMD := fun x ws S k => match x, ws with
  | .r i, [] => match S[i]? with
    | some (.lst xs) => match xs[xs.length - 1]? with
      | some y => k y (S.set i (.lst xs.dropLast))
      | none => False
    | _ => False
  | _, _ => False
def vPopAt : RMD := fun x ws S k => match x, ws with
  | .r i, [.d (.int n)] => (-1000000 ≤ n ∧ n ≤ 1000000) ∧ match S[i]? with
    | some (.lst xs) => match seqIndex? n xs.length with
      | some j => match xs[j]? with
        | some y => k y (S.set i (.lst (xs.eraseIdx j)))
        | none => False
      | none => False
    | _ => False
  | _, _ => False
def vInsert : RMD := fun x ws S k => match x, ws with
  | .r i, [.d (.int n), w] => (0 ≤ n ∧ n ≤ 1000000) ∧ match S[i]? with
    | some (.lst xs) => xs.length < 1000000 ∧ k (.d .none) (S.set i (.lst (xs.take n.toNat ++ [w] ++ xs.drop n.toNat)))
    | _ => False
  | _, _ => False
def vExtend : RMD := fun x ws S k => match x, ws with
  | .r i, [y] => match S[i]? with
    | some (.lst xs) => match lstW S y with
      | some zs => xs.length + zs.length ≤ 1000000 ∧ k (.d .none) (S.set i (.lst (xs ++ zs)))
      | none => False
    | _ => False
  | _, _ => False
section
variable {K : PySem.W.Frag} {m : Ids} {H : Hp} {S : Sto} {k : KE} {Q : VK}
/-- a list that is written over -/
theorem post_put {i : Nat} {x : V} {xs : List Val} (r : Rel K m H S) (v : RV K m H x (.r i)) (e : S[i]? = some (.lst xs)) : ∃ a vs, x = .ref a ∧ H a = some (.lst vs) ∧ RVs K m H vs xs ∧ ∀ (us : List V) (ys : List Val) (y : V) (w : Val), RVs K m H us ys → RV K m H y w → k w (S.set i (.lst ys)) → Post K m H k y (upd H a (.lst us)) := by
  obtain ⟨a, rfl, hm, vs, h1, h2⟩ := v.obj r e (by intro z; cases z)
  refine ⟨a, vs, rfl, h1, h2, fun us ys y w h3 h4 h5 => ?_⟩
  exact ⟨m, S.set i (.lst ys), w, Ext.set hm, r.set hm ⟨us, upd_same, RVs.mono (Ext.set hm) h3⟩ (fun u hu φ z => by rw [h1] at hu; cases hu; cases z), h4.mono (Ext.set hm), h5⟩
theorem lift_append : LiftM K rAppend vAppend := by
  intro H x xs Q m S w ws k r v vs h q
  unfold vAppend at h
  split at h
  · rename_i i w
    split at h
    · rename_i ys e
      obtain ⟨a, us, rfl, h1, h2, h3⟩ := post_put (k := k) r v e
      match xs, vs with
      | [y], .cons vy .nil =>
        exact ⟨a, us, y, rfl, rfl, h1, by rw [h2.length]; exact line6' h.1, q _ _ (h3 _ _ _ _ (h2.append (.cons vy .nil)) (.d .non) h.2)⟩
    · exact h.elim
  · exact h.elim
theorem lift_pop : LiftM K rPop vPop := by
  intro H x xs Q m S w ws k r v vs h q
  unfold vPop at h
  split at h
  · rename_i i
    split at h
    · rename_i ys e
      split at h
      · rename_i y ey
        obtain ⟨a, us, rfl, h1, h2, h3⟩ := post_put (k := k) r v e
        match xs, vs with
        | [], .nil =>
          obtain ⟨u, g1, g2⟩ := h2.get ey
          exact ⟨a, us, u, rfl, rfl, h1, by rw [h2.length]; exact g1, q _ _ (h3 _ _ _ _ h2.dropLast g2 h)⟩
      · exact h.elim
    · exact h.elim
  · exact h.elim
theorem lift_popAt : LiftM K rPopAt vPopAt := by
  intro H x xs Q m S w ws k r v vs h q
  unfold vPopAt at h
  split at h
  · rename_i i n
    obtain ⟨hn, h⟩ := h
    split at h
    · rename_i ys e
      split at h
      · rename_i j ej
        split at h
        · rename_i y ey
          obtain ⟨a, us, rfl, h1, h2, h3⟩ := post_put (k := k) r v e
          match xs, vs with
          | [_], .cons vy .nil =>
            obtain ⟨u, g1, g2⟩ := h2.get ey
            rw [int_inv vy]
            exact ⟨a, us, n, j, u, rfl, rfl, h1, by omega, by omega, by rw [h2.length]; exact ej, g1, q _ _ (h3 _ _ _ _ (h2.erase j) g2 h)⟩
        · exact h.elim
      · exact h.elim
    · exact h.elim
  · exact h.elim
theorem lift_insert : LiftM K (fun x vs H Q => ∃ (l : Addr) (xs : List V) (i : Int) (y : V), x = .ref l ∧ vs = [.int i, y] ∧ H l = some (.lst xs) ∧ xs.length < sizeLine ∧ 0 ≤ i ∧ i < 2 ^ 63 ∧
    Q .non (upd H l (.lst (xs.take i.toNat ++ [y] ++ xs.drop i.toNat)))) vInsert := by
  intro H x xs Q m S w ws k r v vs h q
  unfold vInsert at h
  split at h
  · rename_i i n w
    obtain ⟨hn, h⟩ := h
    split at h
    · rename_i ys e
      obtain ⟨a, us, rfl, h1, h2, h3⟩ := post_put (k := k) r v e
      match xs, vs with
      | [_, y], .cons vn (.cons vy .nil) =>
        rw [int_inv vn]
        exact ⟨a, us, n, y, rfl, rfl, h1, by rw [h2.length]; exact line6' h.1, hn.1, by omega, q _ _ (h3 _ _ _ _ (((h2.take _).append (.cons vy .nil)).append (h2.drop _)) (.d .non) h.2)⟩
    · exact h.elim
  · exact h.elim
theorem lift_extend : LiftM K rExtend vExtend := by
  intro H x xs Q m S w ws k r v vs h q
  unfold vExtend at h
  split at h
  · rename_i i y
    split at h
    · rename_i ys e
      split at h
      · rename_i zs ez
        obtain ⟨a, us, rfl, h1, h2, h3⟩ := post_put (k := k) r v e
        match xs, vs with
        | [y], .cons vy .nil =>
          obtain ⟨b, us2, rfl, h4, h5⟩ := lstW_rel r vy ez
          exact ⟨a, b, us, us2, rfl, rfl, h1, h4, by rw [h2.length, h5.length]; exact line6 h.1, q _ _ (h3 _ _ _ _ (h2.append h5) (.d .non) h.2)⟩
      · exact h.elim
    · exact h.elim
  · exact h.elim
end
section
variable {X : Cx} {o e : Expr} {es : List Expr} {F : WE} {G : WA} {apos cpos : Pos}
theorem de_append (ho : DE X o F) (ha : DA X (e :: es) G) (hbase : attributeBase o "append" X.env (eval o X.env) = eval o X.env := by rfl)
    (hfew : ((backTo cpos (starEach (e :: es) X.env)).all (fun x => !x.1) && (backToKw cpos (keywordEach [] X.env)).all (fun x => x.1.isSome)
      && decide ((e :: es).length + ([] : List Keyword).length + (if ([] : List Keyword).isEmpty then 0 else 1) < 30)) = true := by rfl)
    (hline : (apos.endLine == cpos.line) = true := by rfl) (hs : starEach (e :: es) X.env = (false, eval e X.env) :: starEach es X.env := by rfl) (hplain : (backTo cpos (starEach es X.env)).any (·.1) = false := by rfl) :
    DE X (.Call (.Attribute o "append" apos) (e :: es) [] cpos) (wBM "list" vAppend F G) :=
  de_tBM (fun ta t h1 h2 => pe_bm PySem.F.plainAttrs_list PySem.F.slot_list_append PySem.F.type_list_append mt_append h1 h2 hbase hfew hline hs hplain) lift_append ho ha
theorem de_extend (ho : DE X o F) (ha : DA X (e :: es) G) (hbase : attributeBase o "extend" X.env (eval o X.env) = eval o X.env := by rfl)
    (hfew : ((backTo cpos (starEach (e :: es) X.env)).all (fun x => !x.1) && (backToKw cpos (keywordEach [] X.env)).all (fun x => x.1.isSome)
      && decide ((e :: es).length + ([] : List Keyword).length + (if ([] : List Keyword).isEmpty then 0 else 1) < 30)) = true := by rfl)
    (hline : (apos.endLine == cpos.line) = true := by rfl) (hs : starEach (e :: es) X.env = (false, eval e X.env) :: starEach es X.env := by rfl) (hplain : (backTo cpos (starEach es X.env)).any (·.1) = false := by rfl) :
    DE X (.Call (.Attribute o "extend" apos) (e :: es) [] cpos) (wBM "list" vExtend F G) :=
  de_tBM (fun ta t h1 h2 => pe_bm PySem.F.plainAttrs_list PySem.F.slot_list_extend PySem.F.type_list_extend mt_extend h1 h2 hbase hfew hline hs hplain) lift_extend ho ha
theorem de_insert (ho : DE X o F) (ha : DA X (e :: es) G) (hbase : attributeBase o "insert" X.env (eval o X.env) = eval o X.env := by rfl)
    (hfew : ((backTo cpos (starEach (e :: es) X.env)).all (fun x => !x.1) && (backToKw cpos (keywordEach [] X.env)).all (fun x => x.1.isSome)
      && decide ((e :: es).length + ([] : List Keyword).length + (if ([] : List Keyword).isEmpty then 0 else 1) < 30)) = true := by rfl)
    (hline : (apos.endLine == cpos.line) = true := by rfl) (hs : starEach (e :: es) X.env = (false, eval e X.env) :: starEach es X.env := by rfl) (hplain : (backTo cpos (starEach es X.env)).any (·.1) = false := by rfl) :
    DE X (.Call (.Attribute o "insert" apos) (e :: es) [] cpos) (wBM "list" vInsert F G) :=
  de_tBM (fun ta t h1 h2 => pe_bm PySem.F.plainAttrs_list PySem.F.slot_list_insert PySem.F.type_list_insert mt_insert h1 h2 hbase hfew hline hs hplain) lift_insert ho ha
theorem de_popAt (ho : DE X o F) (ha : DA X (e :: es) G) (hbase : attributeBase o "pop" X.env (eval o X.env) = eval o X.env := by rfl)
    (hfew : ((backTo cpos (starEach (e :: es) X.env)).all (fun x => !x.1) && (backToKw cpos (keywordEach [] X.env)).all (fun x => x.1.isSome)
      && decide ((e :: es).length + ([] : List Keyword).length + (if ([] : List Keyword).isEmpty then 0 else 1) < 30)) = true := by rfl)
    (hline : (apos.endLine == cpos.line) = true := by rfl) (hs : starEach (e :: es) X.env = (false, eval e X.env) :: starEach es X.env := by rfl) (hplain : (backTo cpos (starEach es X.env)).any (·.1) = false := by rfl) :
    DE X (.Call (.Attribute o "pop" apos) (e :: es) [] cpos) (wBM "list" vPopAt F G) :=
  de_tBM (fun ta t h1 h2 => pe_bm PySem.F.plainAttrs_list PySem.F.slot_list_pop PySem.F.type_list_pop mt_popAt h1 h2 hbase hfew hline hs hplain) lift_popAt ho ha
theorem de_pop (ho : DE X o F) (hbase : attributeBase o "pop" X.env (eval o X.env) = eval o X.env := by rfl) (hline : (apos.endLine == cpos.line) = true := by rfl) :
    DE X (.Call (.Attribute o "pop" apos) [] [] cpos) (wBM "list" vPop F wNil) :=
  de_tBM0 (fun ta h1 => pe_bm0 PySem.F.plainAttrs_list PySem.F.slot_list_pop PySem.F.type_list_pop mt_pop h1 hbase hline) lift_pop ho
end

/-! ### repr of what is small -/
def vRepr : RCD := fun ws S k => match ws with
  | [.d (.bool b)] => k (.d (.str (if b then "True" else "False"))) S
  | [.d .none] => k (.d (.str "None")) S
  | [.d (.int i)] => i.natAbs.log2 < 1920 ∧ k (.d (.str (toString i))) S
  | _ => False
section
variable {X : Cx}
theorem call_repr_bl : CallR X (.builtin "repr") (fun xs H Q => ∃ b, xs = [.bl b] ∧ Q (.str (if b then "True" else "False")) H) := by
  intro pins s σ H xs us Q I r h
  obtain ⟨i, rfl, q⟩ := h
  obtain ⟨u, rfl, rfl⟩ := vals1 r
  exact PySem.P.repr_of_bool ⟨.str _, H, I.tok _, ⟨_, rfl⟩, q⟩
theorem call_repr_non : CallR X (.builtin "repr") (fun xs H Q => xs = [.non] ∧ Q (.str "None") H) := by
  intro pins s σ H xs us Q I r h
  obtain ⟨rfl, q⟩ := h
  obtain ⟨u, rfl, rfl⟩ := vals1 r
  exact PySem.P.repr_of_none ⟨.str _, H, I.tok _, ⟨_, rfl⟩, q⟩
theorem lift_repr {K : PySem.W.Frag} : LiftC K (fun xs H Q => (∃ b, xs = [.bl b] ∧ Q (.str (if b then "True" else "False")) H) ∨ (xs = [.non] ∧ Q (.str "None") H) ∨ ∃ i, xs = [.int i] ∧ i.natAbs.log2 < 1920 ∧ Q (.str (toString i)) H) vRepr := by
  intro H xs Q m S ws k r v h q
  unfold vRepr at h
  split at h
  · rename_i b
    match xs, v with
    | [_], .cons v .nil =>
      rw [bool_inv v]
      exact .inl ⟨b, rfl, q _ _ (Post.here r (.d (.str _)) h)⟩
  · match xs, v with
    | [_], .cons v .nil =>
      rw [non_inv v]
      exact .inr (.inl ⟨rfl, q _ _ (Post.here r (.d (.str _)) h)⟩)
  · rename_i i
    match xs, v with
    | [_], .cons v .nil =>
      rw [int_inv v]
      exact .inr (.inr ⟨i, rfl, h.1, q _ _ (Post.here r (.d (.str _)) h.2)⟩)
  · exact h.elim
theorem call_repr3 : CallR X (.builtin "repr") (fun xs H Q => (∃ b, xs = [.bl b] ∧ Q (.str (if b then "True" else "False")) H) ∨ (xs = [.non] ∧ Q (.str "None") H) ∨ ∃ i, xs = [.int i] ∧ i.natAbs.log2 < 1920 ∧ Q (.str (toString i)) H) := CallR.or3 call_repr_bl call_repr_non SkE.call_repr_int
end
end DL

set_option Elab.async false
set_option linter.all false
set_option maxRecDepth 100000
set_option maxHeartbeats 4000000
/-! DL11: short forms; chains; what one def hands on to the next. -/
namespace DL
open PySem PySem.Spec PyProof.Rows L2

section
variable {X : Cx} {pos p p2 : Pos} {a b c e e2 : Expr} {es rest : List Expr} {Fa Fb Fc F : WE} {G : WA}
theorem v (i : Nat) {x : Str} (hN : X.N[i]? = some x := by rfl) (hv : Vis X.env.scope x := by first | exact Or.inl rfl | exact Or.inr (Or.inl rfl) | exact Or.inr (Or.inr rfl)) (hd : (x == ("__debug__" : Str)) = false := by decide)
    (hcd : (x == ("__classdict__" : Str)) = false := by decide) : DE X (.Name x pos) (wVar i) := de_var hN hv hd hcd
def wCmpT (r : R2D) (Fa Fb : WE) : WT := fun W en S k => wOp r Fa Fb W en S (kB k)
theorem tc {op : CmpOp} {r : R2D} (ho : OpD X (compareOp op) r) (ha : DE X a Fa) (hb : DE X b Fb) (h1 : behindInMarks op b = false) : DT X (.Compare a [op] [b] pos) (wCmpT r Fa Fb) := dt_cmp ho ha hb h1
/-! a op b op c -/
def wChain (r r' : R2D) (Fa Fb Fc : WE) : WE := fun W en S k => Fa W en S fun x S1 => Fb W en S1 fun y S2 => r x y S2 fun z S3 => match z with
  | .d (.bool b) => if b = true then Fc W en S3 fun w S4 => r' y w S4 k else k (.d (.bool false)) S3
  | _ => False
theorem de_chain {op op' : CmpOp} {r r' : R2D} (ho : OpD X (compareOp op) r) (ho' : OpD X (compareOp op') r') (ha : DE X a Fa) (hb : DE X b Fb) (hc : DE X c Fc)
    (hm : lastMarks [op, op'] [b, c] = false := by with_unfolding_all rfl) : DE X (.Compare a [op, op'] [b, c] pos) (wChain r r' Fa Fb Fc) := by
  refine ⟨fun B W tk => ⟨fun pins s st H Q I h => ?_⟩⟩
  obtain ⟨m, en, S, k, g, f, q⟩ := h
  refine Compare_chain (thn ((ha.go B W tk).run pins s st H _ I ⟨m, en, S, _, g, f, fun v H' p => p⟩) fun v s1 ⟨x, H1, I1, r1, q1⟩ => ?_) hm
  obtain ⟨m1, S1, w1, e1, R1, v1, k1⟩ := q1
  have g1 := g.next e1 R1
  refine chain_link (thn ((hb.go B W tk).run pins s1 st H1 _ I1 ⟨m1, en, S1, _, g1, k1, fun v H' p => p⟩) fun u s2 ⟨y, H2, I2, r2, q2⟩ => ?_)
  obtain ⟨m2, S2, w2, e2, R2, v2, k2⟩ := q2
  have g2 := g1.next e2 R2
  refine thn (ho pins s2 st H2 x y v u _ m2 S2 w1 w2 _ I2 R2 (v1.mono e2) v2 r1 r2 k2 fun v' H' p => p) fun d s3 ⟨z, H3, I3, r3, q3⟩ => ?_
  obtain ⟨m3, S3, w3, e3, R3, v3, k3⟩ := q3
  have g3 := g2.next e3 R3
  split at k3
  · rename_i t
    rw [bool_inv v3] at r3
    cases r3
    refine wpAny_truthy_bool ?_
    cases t with
    | false => exact ite_ff ⟨.bl false, H3, I3, rfl, q _ _ ⟨m3, S3, _, (e1.trans e2).trans e3, R3, .d (.bl _), k3⟩⟩
    | true =>
      refine ite_tt (chain_last (thn ((hc.go B W tk).run pins s3 st H3 _ I3 ⟨m3, en, S3, _, g3, k3, fun v H' p => p⟩) fun w' s4 ⟨z', H4, I4, r4, q4⟩ => ?_))
      obtain ⟨m4, S4, w4, e4, R4, v4, k4⟩ := q4
      exact ho' pins s4 st H4 y z' u w' Q m4 S4 w2 w4 k I4 R4 ((v2.mono e3).mono e4) v4 r2 r4 k4 fun v' H' p => q v' H' (p.tr (((e1.trans e2).trans e3).trans e4))
  · exact k3.elim
def wChainT (r r' : R2D) (Fa Fb Fc : WE) : WT := fun W en S k => wChain r r' Fa Fb Fc W en S (kB k)
theorem dt_chain {op op' : CmpOp} {r r' : R2D} (ho : OpD X (compareOp op) r) (ho' : OpD X (compareOp op') r') (ha : DE X a Fa) (hb : DE X b Fb) (hc : DE X c Fc)
    (hm : lastMarks [op, op'] [b, c] = false := by with_unfolding_all rfl) : DT X (.Compare a [op, op'] [b, c] pos) (wChainT r r' Fa Fb Fc) := by
  refine ⟨fun B W tk => ⟨fun pins s st H Q I h => ?_⟩⟩
  obtain ⟨m, en, S, k, g, f, q⟩ := h
  refine isTrue_chain (thn ((ha.go B W tk).run pins s st H _ I ⟨m, en, S, _, g, f, fun v H' p => p⟩) fun v s1 ⟨x, H1, I1, r1, q1⟩ => ?_) hm
  obtain ⟨m1, S1, w1, e1, R1, v1, k1⟩ := q1
  have g1 := g.next e1 R1
  refine test_link (thn ((hb.go B W tk).run pins s1 st H1 _ I1 ⟨m1, en, S1, _, g1, k1, fun v H' p => p⟩) fun u s2 ⟨y, H2, I2, r2, q2⟩ => ?_)
  obtain ⟨m2, S2, w2, e2, R2, v2, k2⟩ := q2
  have g2 := g1.next e2 R2
  refine thn (ho pins s2 st H2 x y v u _ m2 S2 w1 w2 _ I2 R2 (v1.mono e2) v2 r1 r2 k2 fun v' H' p => p) fun d s3 ⟨z, H3, I3, r3, q3⟩ => ?_
  obtain ⟨m3, S3, w3, e3, R3, v3, k3⟩ := q3
  have g3 := g2.next e3 R3
  split at k3
  · rename_i t
    rw [bool_inv v3] at r3
    cases r3
    refine wpAny_truthy_bool ?_
    cases t with
    | false => exact ite_ff ⟨H3, I3, q _ _ ⟨m3, S3, (e1.trans e2).trans e3, R3, k3⟩⟩
    | true =>
      refine ite_tt (test_last (thn ((hc.go B W tk).run pins s3 st H3 _ I3 ⟨m3, en, S3, _, g3, k3, fun v H' p => p⟩) fun w' s4 ⟨z', H4, I4, r4, q4⟩ => ?_))
      obtain ⟨m4, S4, w4, e4, R4, v4, k4⟩ := q4
      refine thn (ho' pins s4 st H4 y z' u w' _ m4 S4 w2 w4 (kB k) I4 R4 ((v2.mono e3).mono e4) v4 r2 r4 k4 fun v' H' p => p) fun d' s5 ⟨z5, H5, I5, r5, q5⟩ => ?_
      obtain ⟨m5, S5, w5, e5, R5, v5, k5⟩ := q5
      cases v5 with
      | r _ => exact k5.elim
      | z _ => exact k5.elim
      | s _ _ => exact k5.elim
      | d hd =>
        cases hd with
        | bl d =>
          cases r5
          exact wpAny_truthy_bool ⟨H5, I5, q _ _ ⟨m5, S5, (((e1.trans e2).trans e3).trans e4).trans e5, R5, k5⟩⟩
        | _ => exact k5.elim
  · exact k3.elim

/-! ### built-ins by name -/
def vAny : RCD := fun ws S k => match ws with
  | [w] => match lsB S w with
    | some ns => k (.d (.bool (ns.any id))) S
    | none => False
  | _ => False
def vAbs : RCD := fun ws S k => match ws with
  | [.d (.int i)] => k (.d (.int (if i < 0 then -i else i))) S
  | _ => False
def vList : RCD := fun ws S k => match ws with
  | [w] => match seqW S w with
    | some xs => match dats xs with
      | some ds => k (.d (.list ds)) S
      | none => False
    | none => False
  | _ => False
def vListM : RCD := fun ws S k => match ws with
  | [w] => match seqW S w with
    | some xs => k (.r S.length) (S ++ [.lst xs])
    | none => False
  | _ => False
theorem lift_abs : LiftC X.K (fun xs H Q => ∃ i, xs = [.int i] ∧ Q (.int (if i < 0 then -i else i)) H) vAbs := by
  intro H xs Q m S ws k r v h q
  unfold vAbs at h
  split at h
  · rename_i i
    match xs, v with
    | [_], .cons v .nil =>
      rw [int_inv v]
      exact ⟨i, rfl, q _ _ (Post.here r (.d (.int _)) h)⟩
  · exact h.elim
theorem lift_list : LiftC X.K (fun xs H Q => ∃ p ys, xs = [.ref p] ∧ (SqL X.K H p ys ∨ SqT X.K H p ys) ∧ ∀ l, H l = none → Q (.ref l) (upd H l (.lst ys))) vList := by
  intro H xs Q m S ws k r v h q
  unfold vList at h
  split at h
  · rename_i w
    split at h
    · rename_i ys e
      split at h
      · rename_i ds ed
        match xs, v with
        | [_], .cons v .nil =>
          obtain ⟨a, vs, rfl, h1, h2⟩ := seqW_rel r v e
          exact ⟨a, vs, rfl, h1, post_lst r (dats_rel h2 ed) h q⟩
      · exact h.elim
    · exact h.elim
  · exact h.elim
theorem lift_listM : LiftC X.K (fun xs H Q => ∃ p ys, xs = [.ref p] ∧ (SqL X.K H p ys ∨ SqT X.K H p ys) ∧ ∀ l, H l = none → Q (.ref l) (upd H l (.lst ys))) vListM := by
  intro H xs Q m S ws k r v h q
  unfold vListM at h
  split at h
  · rename_i w
    split at h
    · rename_i ys e
      match xs, v with
      | [_], .cons v .nil =>
        obtain ⟨a, vs, rfl, h1, h2⟩ := seqW_rel r v e
        exact ⟨a, vs, rfl, h1, post_new r h2 h q⟩
    · exact h.elim
  · exact h.elim
theorem cb_len (z : X.mg "len" = none) (ha : DA X (e :: es) G) (hg : Gl X "len" := by rfl) (he : starEach (e :: es) X.env = (false, eval e X.env) :: starEach es X.env := by rfl) (hpl : (backTo pos (starEach es X.env)).any (·.1) = false := by rfl) : DE X (.Call (.Name "len" p) (e :: es) [] pos) (wCB vLen G) :=
  de_callB (CallR.or3 call_len_seq call_len_str call_lenD) lift_len hg z PySem.boot_len ha (by decide) (by decide) he hpl
theorem cb_max2 (hc : X.calm = true) (z : X.mg "max" = none) (ha : DA X (e :: es) G) (hg : Gl X "max" := by rfl) (he : starEach (e :: es) X.env = (false, eval e X.env) :: starEach es X.env := by rfl) (hpl : (backTo pos (starEach es X.env)).any (·.1) = false := by rfl) : DE X (.Call (.Name "max" p) (e :: es) [] pos) (wCB vMax2 G) :=
  de_callB (call_max2 hc) (lift_max2 (by rfl)) hg z PyProof.Rows.boot_max ha (by decide) (by decide) he hpl
theorem cb_min2 (hc : X.calm = true) (z : X.mg "min" = none) (ha : DA X (e :: es) G) (hg : Gl X "min" := by rfl) (he : starEach (e :: es) X.env = (false, eval e X.env) :: starEach es X.env := by rfl) (hpl : (backTo pos (starEach es X.env)).any (·.1) = false := by rfl) : DE X (.Call (.Name "min" p) (e :: es) [] pos) (wCB vMin2 G) :=
  de_callB (call_min2 hc) (lift_max2 (by rfl)) hg z PyProof.Rows.boot_min ha (by decide) (by decide) he hpl
theorem cb_max1 (hc : X.calm = true) (z : X.mg "max" = none) (ha : DA X (e :: es) G) (hg : Gl X "max" := by rfl) (he : starEach (e :: es) X.env = (false, eval e X.env) :: starEach es X.env := by rfl) (hpl : (backTo pos (starEach es X.env)).any (·.1) = false := by rfl) : DE X (.Call (.Name "max" p) (e :: es) [] pos) (wCB vMax1 G) :=
  de_callB (cr_max hc) lift_max1 hg z PyProof.Rows.boot_max ha (by decide) (by decide) he hpl
theorem cb_min1 (hc : X.calm = true) (z : X.mg "min" = none) (ha : DA X (e :: es) G) (hg : Gl X "min" := by rfl) (he : starEach (e :: es) X.env = (false, eval e X.env) :: starEach es X.env := by rfl) (hpl : (backTo pos (starEach es X.env)).any (·.1) = false := by rfl) : DE X (.Call (.Name "min" p) (e :: es) [] pos) (wCB vMin1 G) :=
  de_callB (cr_min hc) lift_min1 hg z PyProof.Rows.boot_min ha (by decide) (by decide) he hpl
theorem cb_sum (hc : X.calm = true) (z : X.mg "sum" = none) (ha : DA X (e :: es) G) (hg : Gl X "sum" := by rfl) (he : starEach (e :: es) X.env = (false, eval e X.env) :: starEach es X.env := by rfl) (hpl : (backTo pos (starEach es X.env)).any (·.1) = false := by rfl) : DE X (.Call (.Name "sum" p) (e :: es) [] pos) (wCB vSum1 G) :=
  de_callB (cr_sum hc) lift_sum1 hg z PyProof.Rows.boot_sum ha (by decide) (by decide) he hpl
theorem cb_all (hc : X.calm = true) (z : X.mg "all" = none) (ha : DA X (e :: es) G) (hg : Gl X "all" := by rfl) (he : starEach (e :: es) X.env = (false, eval e X.env) :: starEach es X.env := by rfl) (hpl : (backTo pos (starEach es X.env)).any (·.1) = false := by rfl) : DE X (.Call (.Name "all" p) (e :: es) [] pos) (wCB vAll G) :=
  de_callB (cr_all hc) lift_all hg z PyProof.Rows.boot_all ha (by decide) (by decide) he hpl
theorem cb_repr (z : X.mg "repr" = none) (ha : DA X (e :: es) G) (hg : Gl X "repr" := by rfl) (he : starEach (e :: es) X.env = (false, eval e X.env) :: starEach es X.env := by rfl) (hpl : (backTo pos (starEach es X.env)).any (·.1) = false := by rfl) : DE X (.Call (.Name "repr" p) (e :: es) [] pos) (wCB vRepr G) :=
  de_callB call_repr3 lift_repr hg z PyProof.Rows.boot_repr ha (by decide) (by decide) he hpl
theorem cb_int (z : X.mg "int" = none) (ha : DA X (e :: es) G) (hg : Gl X "int" := by rfl) (he : starEach (e :: es) X.env = (false, eval e X.env) :: starEach es X.env := by rfl) (hpl : (backTo pos (starEach es X.env)).any (·.1) = false := by rfl) : DE X (.Call (.Name "int" p) (e :: es) [] pos) (wCB vInt G) :=
  de_callTy call_int1 lift_int hg z PyProof.Rows.boot_int ha (by decide) (by decide) he hpl
theorem cb_tuple (z : X.mg "tuple" = none) (ha : DA X (e :: es) G) (hg : Gl X "tuple" := by rfl) (he : starEach (e :: es) X.env = (false, eval e X.env) :: starEach es X.env := by rfl) (hpl : (backTo pos (starEach es X.env)).any (·.1) = false := by rfl) : DE X (.Call (.Name "tuple" p) (e :: es) [] pos) (wCB vTuple G) :=
  de_callTy call_tuple_of lift_tuple hg z PyProof.Rows.boot_tuple ha (by decide) (by decide) he hpl
theorem cb_list (z : X.mg "list" = none) (ha : DA X (e :: es) G) (hg : Gl X "list" := by rfl) (he : starEach (e :: es) X.env = (false, eval e X.env) :: starEach es X.env := by rfl) (hpl : (backTo pos (starEach es X.env)).any (·.1) = false := by rfl) : DE X (.Call (.Name "list" p) (e :: es) [] pos) (wCB vList G) :=
  de_callTy call_list_of lift_list hg z PyProof.Rows.boot_list ha (by decide) (by decide) he hpl
theorem cb_listM (z : X.mg "list" = none) (ha : DA X (e :: es) G) (hg : Gl X "list" := by rfl) (he : starEach (e :: es) X.env = (false, eval e X.env) :: starEach es X.env := by rfl) (hpl : (backTo pos (starEach es X.env)).any (·.1) = false := by rfl) : DE X (.Call (.Name "list" p) (e :: es) [] pos) (wCB vListM G) :=
  de_callTy call_list_of lift_listM hg z PyProof.Rows.boot_list ha (by decide) (by decide) he hpl
theorem cb_abs (z : X.mg "abs" = none) (hv : bootBuiltins "abs" = some (.builtin "abs")) (ha : DA X (e :: es) G) (hg : Gl X "abs" := by rfl) (he : starEach (e :: es) X.env = (false, eval e X.env) :: starEach es X.env := by rfl) (hpl : (backTo pos (starEach es X.env)).any (·.1) = false := by rfl) : DE X (.Call (.Name "abs" p) (e :: es) [] pos) (wCB vAbs G) :=
  de_callB call_abs lift_abs hg z hv ha (by decide) (by decide) he hpl
theorem ty_int (z : X.mg "int" = none) (hg : Gl X "int" := by rfl) : PE X (.Name "int" p) (tC (.ty "int")) := pe_bltn hg z PyProof.Rows.boot_int rfl
theorem ty_bool (z : X.mg "bool" = none) (hg : Gl X "bool" := by rfl) : PE X (.Name "bool" p) (tC (.ty "bool")) := pe_bltn hg z PyProof.Rows.boot_bool rfl
theorem ty_str (z : X.mg "str" = none) (hg : Gl X "str" := by rfl) : PE X (.Name "str" p) (tC (.ty "str")) := pe_bltn hg z PyProof.Rows.boot_str rfl
theorem ty_tuple (z : X.mg "tuple" = none) (hg : Gl X "tuple" := by rfl) : PE X (.Name "tuple" p) (tC (.ty "tuple")) := pe_bltn hg z PyProof.Rows.boot_tuple rfl
theorem ty_list (z : X.mg "list" = none) (hg : Gl X "list" := by rfl) : PE X (.Name "list" p) (tC (.ty "list")) := pe_bltn hg z PyProof.Rows.boot_list rfl
theorem cb_isi {n : String} (z : X.mg "isinstance" = none) (hT : PE X e2 (tC (.ty n))) (ha : DE X a F) (hk : n ∈ ["int", "bool", "str", "tuple", "list"] := by decide) (hg : Gl X "isinstance" := by rfl)
    (he : starEach (a :: [e2]) X.env = (false, eval a X.env) :: starEach [e2] X.env := by rfl) (he2 : starEach [e2] X.env = (false, eval e2 X.env) :: starEach [] X.env := by rfl) (hpl : (backTo pos (starEach [e2] X.env)).any (·.1) = false := by rfl) : DE X (.Call (.Name "isinstance" p) [a, e2] [] pos) (wUn (vIsi n) F) :=
  de_isi hk hg z hT ha he he2 hpl
end

/-! ### what one def hands on -/
section
variable {P : Program} {w : World} {K : PySem.W.Frag} {mg : Str → Option Value} {base : Heap}
/-- a def of the text, behind the top -/
structure Dfn (K : PySem.W.Frag) (mg : Str → Option Value) (x : Str) (st : Stmt) (ps : List Str) : Prop where
  ex : ∃ f fd, Fun K x x st f fd ∧ mg x = some (.ref f) ∧ Binds K fd ps []
structure Own (P : Program) (w : World) (K : PySem.W.Frag) (mg : Str → Option Value) (base : Heap) (k : Nat) (x : Str) (sp : Spec) : Prop where
  ex : ∃ f fd ps, FnOk P w K mg base (L2.CX P w) k f fd ps (liftSp K mg sp) ∧ mg x = some (.ref f) ∧ PySem.W.keepIn K (.ref f) = true ∧ Binds K fd ps []
theorem Own.mono {j k : Nat} {x : Str} {sp : Spec} (o : Own P w K mg base j x sp) (h : j ≤ k) : Own P w K mg base k x sp := by
  obtain ⟨f, fd, ps, a, b⟩ := o.ex
  exact ⟨f, fd, ps, a.mono h, b⟩
abbrev DX (P : Program) (w : World) (K : PySem.W.Frag) (mg : Str → Option Value) (base : Heap) (N : List Str) (qual : Str) (st : Stmt) (f : Addr) (cdv : Value) (A : Around) (outer : List PySem.Env) (s : Shared) (H : Hp) (E : XK) : Cx := cxOf (L2.CX P w) P w K mg base N qual (defScope st) f cdv A outer s H E
/-- the body's reading -/
def Body (P : Program) (w : World) (K : PySem.W.Frag) (mg : Str → Option Value) (base : Heap) (k : Nat) (x : Str) (st : Stmt) (N : List Str) (G : WS) : Prop :=
  ∀ (f : Addr) (cdv : Value) (A : Around) (outer : List PySem.Env) (s : Shared) (H : Hp) (E : XK), Room k (A.deeper (envOfC x (defScope st) s.heap.objs.size f cdv)) → DSs (DX P w K mg base N x st f cdv A outer s H E) (defBody st) G
theorem own_of {x : Str} {st : Stmt} {N ps : List Str} {k : Nat} {sp : Spec} {G : WS} (F : Dfn K mg x st ps) (Sc : FnScope N ps (defScope st)) (hn : ps.length = sp.n) (body : Body P w K mg base k x st N G) (sem : Keeps N sp G) : Own P w K mg base (k + 1) x sp := by
  obtain ⟨f, fd, h1, h2, h3⟩ := F.ex
  exact ⟨f, fd, ps, fd_of h1 Sc hn (fun cdv A outer s H E hr => body f cdv A outer s H E hr) sem, h2, h1.kp, h3⟩
variable {X : Cx} {k : Nat} {x : Str} {sp : Spec} {p pos : Pos} {e : Expr} {es : List Expr} {G : WA}
theorem oc (o : Own X.prog X.w X.K X.mg X.base k x sp) (hr : Room k X.A) (ha : DA X (e :: es) G) (hg : Gl X x := by rfl) (hdb : (x == ("__debug__" : Str)) = false := by decide) (he : starEach (e :: es) X.env = (false, eval e X.env) :: starEach es X.env := by rfl) (hpl : (backTo pos (starEach es X.env)).any (·.1) = false := by rfl) :
    DE X (.Call (.Name x p) (e :: es) [] pos) (wCall sp G) := by
  obtain ⟨f, fd, ps, a, b, c, d⟩ := o.ex
  exact de_call a hr hg b c d ha hdb he hpl
theorem ocW (o : Own X.prog X.w X.K X.mg X.base k x sp) (hr : Room k X.A) (ha : DA X (e :: es) G) (hg : Gl X x := by rfl) (hdb : (x == ("__debug__" : Str)) = false := by decide) (he : starEach (e :: es) X.env = (false, eval e X.env) :: starEach es X.env := by rfl) (hpl : (backTo pos (starEach es X.env)).any (·.1) = false := by rfl) :
    DE X (.Call (.Name x p) (e :: es) [] pos) (wCallW sp G) := by
  obtain ⟨f, fd, ps, a, b, c, d⟩ := o.ex
  exact de_callW a hr hg b c d ha hdb he hpl
end
end DL

set_option Elab.async false
set_option linter.all false
set_option maxRecDepth 100000
set_option maxHeartbeats 4000000
/-! DL12: loops and comprehensions by invariants; calls by kinds of promise. -/
namespace DL
open PySem PySem.Spec PyProof.Rows L2

theorem ru1 {k : Nat} {A : Around} (r : Room k A) : A.units + 1 < cLine := by have := r.units; omega
theorem ru {k : Nat} {A : Around} (r : Room k A) : A.units + 64 < cLine := r.units
abbrev va_add : R2D := vI (fun _ _ => True) fun i j => .int (i + j)
abbrev va_sub : R2D := vI (fun _ _ => True) fun i j => .int (i - j)
theorem la_add {K : PySem.W.Frag} : Lift2 K (rI0 fun i j => .int (i + j)) va_add := lift_I0 fun _ _ _ _ => .int _
theorem la_sub {K : PySem.W.Frag} : Lift2 K (rI0 fun i j => .int (i - j)) va_sub := lift_I0 fun _ _ _ _ => .int _

/-! ### loops -/
section
variable {α : Type} {t : Tg} {body : WS} {ok : Sto → Prop} {W : XQ} {dn : DN}
/-- a for over c x for x in xs; I: what holds behind the items of the first list -/
theorem turns_inv (c : α → Val) (xs : List α) (I : List α → Env → Sto → Prop) (hok : ∀ l en S, I l en S → ok S)
    (step : ∀ l x r en S, xs = l ++ x :: r → I l en S → ∃ en', t.w (c x) en = some en' ∧ ∀ nx : Pt, (∀ en S, I (l ++ [x]) en S → nx en S) → body W ⟨nx, dn.rt, dn.nx, nx⟩ en' S)
    (fin : ∀ en S, I xs en S → dn.nx en S) {en : Env} {S : Sto} (h0 : I [] en S) : wTurns t body ok W dn (xs.map c) en S := by
  have key : ∀ (r l : List α) (en : Env) (S : Sto), xs = l ++ r → I l en S → wTurns t body ok W dn (r.map c) en S := by
    intro r
    induction r with
    | nil =>
      intro l en S e h
      rw [List.append_nil] at e
      exact ⟨hok _ _ _ h, fin _ _ (by rw [e]; exact h)⟩
    | cons x r ih =>
      intro l en S e h
      refine ⟨hok _ _ _ h, ?_⟩
      obtain ⟨en', e1, h1⟩ := step l x r en S e h
      show match t.w (c x) en with
        | some en' => body W ⟨wTurns t body ok W dn (r.map c), dn.rt, dn.nx, wTurns t body ok W dn (r.map c)⟩ en' S
        | none => False
      rw [e1]
      exact h1 _ fun en S h2 => ih (l ++ [x]) en S (by rw [List.append_assoc]; exact e) h2
  exact key xs [] en S rfl h0
end
section
variable {α : Type} {t : Tg} {T : WT} {E : WE} {ok : Sto → Prop} {en : Env} {k : KA}
/-- a comprehension; I: what holds of the items taken and made -/
theorem lc_inv (c : α → Val) (xs : List α) (I : List α → List Val → Sto → Prop) (hok : ∀ l acc S, I l acc S → ok S)
    (step : ∀ l x r acc S, xs = l ++ x :: r → I l acc S → ∃ en', t.w (c x) en = some en' ∧ ∀ k' : List Val → Sto → Prop, (∀ acc S, I (l ++ [x]) acc S → k' acc S) →
      T noX en' S fun b S1 => if b = true then E noX en' S1 fun y S2 => acc.length < 1000000 ∧ k' (acc ++ [y]) S2 else k' acc S1)
    (fin : ∀ acc S, I xs acc S → k acc S) {S : Sto} (h0 : I [] [] S) : wLcT t T E ok en k (xs.map c) [] S := by
  have key : ∀ (r l : List α) (acc : List Val) (S : Sto), xs = l ++ r → I l acc S → wLcT t T E ok en k (r.map c) acc S := by
    intro r
    induction r with
    | nil =>
      intro l acc S e h
      rw [List.append_nil] at e
      exact ⟨hok _ _ _ h, fin _ _ (by rw [e]; exact h)⟩
    | cons x r ih =>
      intro l acc S e h
      refine ⟨hok _ _ _ h, ?_⟩
      obtain ⟨en', e1, h1⟩ := step l x r acc S e h
      show match t.w (c x) en with
        | some en' => T noX en' S fun b S1 => if b = true then E noX en' S1 fun y S2 => acc.length < 1000000 ∧ wLcT t T E ok en k (r.map c) (acc ++ [y]) S2 else wLcT t T E ok en k (r.map c) acc S1
        | none => False
      rw [e1]
      exact h1 (fun acc S => wLcT t T E ok en k (r.map c) acc S) fun acc S h2 => ih (l ++ [x]) acc S (by rw [List.append_assoc]; exact e) h2
  exact key xs [] [] S rfl h0
/-- a comprehension that leaves the store as it is: those with p, by f -/
theorem lc_pure (c : α → Val) (xs : List α) (p : α → Bool) (f : α → PyData) {S : Sto} (hok : ok S) (hl : xs.length ≤ 1000000)
    (step : ∀ x ∈ xs, ∃ en', t.w (c x) en = some en' ∧ (∀ k' : KB, k' (p x) S → T noX en' S k') ∧ (p x = true → ∀ k' : KE, k' (.d (f x)) S → E noX en' S k'))
    (fin : k (((xs.filter p).map f).map Val.d) S) : wLcT t T E ok en k (xs.map c) [] S := by
  refine lc_inv c xs (fun l acc S' => S' = S ∧ acc = ((l.filter p).map f).map Val.d) (fun l acc S' h => by rw [h.1]; exact hok) ?_ (fun acc S' h => by rw [h.1, h.2]; exact fin) ⟨rfl, rfl⟩
  rintro l x r acc S' e ⟨rfl, rfl⟩
  have hx : x ∈ xs := by rw [e]; simp
  obtain ⟨en', e1, h1, h2⟩ := step x hx
  refine ⟨en', e1, fun k' hk => h1 _ ?_⟩
  cases hp : p x with
  | false =>
    rw [if_neg (by simp)]
    refine hk _ _ ⟨rfl, ?_⟩
    rw [List.filter_append, List.filter_cons, hp]
    simp
  | true =>
    rw [if_pos rfl]
    refine h2 hp _ ⟨?_, hk _ _ ⟨rfl, ?_⟩⟩
    · have : ((l.filter p).map f).length ≤ l.length := by rw [List.length_map]; exact List.length_filter_le _ _
      have : l.length < xs.length := by rw [e]; simp
      rw [List.length_map]
      omega
    · rw [List.filter_append, List.filter_cons, hp]
      simp
end

section
variable {t : Tg} {body : WS} {ok : Sto → Prop} {W : XQ} {dn : DN}
/-- a for over a range; I: what holds ahead of the i-th turn -/
theorem turns_rng {a b : Int} (I : Nat → Env → Sto → Prop) (hok : ∀ i en S, I i en S → ok S)
    (step : ∀ (i : Nat) en S, i < (b - a).toNat → I i en S → ∃ en', t.w (.d (.int (a + (i : Nat)))) en = some en' ∧ ∀ nx : Pt, (∀ en S, I (i + 1) en S → nx en S) → body W ⟨nx, dn.rt, dn.nx, nx⟩ en' S)
    (fin : ∀ en S, I (b - a).toNat en S → dn.nx en S) {en : Env} {S : Sto} (h0 : I 0 en S) : wTurns t body ok W dn (rgL a b) en S := by
  refine turns_inv (fun i : Nat => Val.d (.int (a + (i : Nat)))) (List.range (b - a).toNat) (fun l en S => l = List.range l.length ∧ l.length ≤ (b - a).toNat ∧ I l.length en S) (fun l en S h => hok _ _ _ h.2.2) ?_ (fun en S h => fin _ _ (by simpa using h.2.2)) ⟨rfl, Nat.zero_le _, h0⟩
  rintro l x r en S e ⟨e1, e2, h⟩
  have hx : x = l.length ∧ l.length < (b - a).toNat := by
    have z1 : (List.range (b - a).toNat)[l.length]? = some x := by rw [e]; simp
    have z2 := (List.getElem?_eq_some_iff.mp z1).1
    rw [List.length_range] at z2
    rw [List.getElem?_range z2] at z1
    exact ⟨(Option.some.inj z1).symm, z2⟩
  obtain ⟨rfl, h2⟩ := hx
  obtain ⟨en', e3, h3⟩ := step l.length en S h2 h
  refine ⟨en', e3, fun nx hn => h3 nx fun en S h4 => hn en S ⟨?_, by simp; omega, by simpa using h4⟩⟩
  rw [List.length_append, List.length_singleton, List.range_succ, ← e1]
end
section
variable {α : Type} {t : Tg} {E : WE} {ok : Sto → Prop} {en : Env} {k : KA}
theorem filt_true (xs : List α) : (xs.filter fun _ => true) = xs := List.filter_eq_self.mpr fun _ _ => rfl
theorem lc_map (c : α → Val) (xs : List α) (f : α → PyData) {S : Sto} (hok : ok S) (hl : xs.length ≤ 1000000)
    (step : ∀ x ∈ xs, ∃ en', t.w (c x) en = some en' ∧ ∀ k' : KE, k' (.d (f x)) S → E noX en' S k') (fin : k ((xs.map f).map Val.d) S) : wLcT t wYes E ok en k (xs.map c) [] S :=
  lc_pure c xs (fun _ => true) f hok hl (fun x hx => let ⟨en', e, h⟩ := step x hx; ⟨en', e, fun k' hk => hk, fun _ => h⟩) (by rw [filt_true]; exact fin)
/-- over a range -/
theorem lc_rng {T : WT} {a b : Int} (p : Nat → Bool) (f : Nat → PyData) {S : Sto} (hok : ok S) (hl : (b - a).toNat ≤ 1000000)
    (step : ∀ i : Nat, i < (b - a).toNat → ∃ en', t.w (.d (.int (a + (i : Nat)))) en = some en' ∧ (∀ k' : KB, k' (p i) S → T noX en' S k') ∧ (p i = true → ∀ k' : KE, k' (.d (f i)) S → E noX en' S k'))
    (fin : k ((((List.range (b - a).toNat).filter p).map f).map Val.d) S) : wLcT t T E ok en k (rgL a b) [] S :=
  lc_pure (fun i : Nat => Val.d (.int (a + (i : Nat)))) (List.range (b - a).toNat) p f hok (by rw [List.length_range]; exact hl) (fun i hi => step i (List.mem_range.mp hi)) fin
end

section
variable {α : Type} {t : Tg} {body : WS} {ok : Sto → Prop} {W : XQ} {dn : DN}
theorem turns_map (f : α → PyData) (xs : List α) (I : List α → Env → Sto → Prop) (hok : ∀ l en S, I l en S → ok S)
    (step : ∀ l x r en S, xs = l ++ x :: r → I l en S → ∃ en', t.w (.d (f x)) en = some en' ∧ ∀ nx : Pt, (∀ en S, I (l ++ [x]) en S → nx en S) → body W ⟨nx, dn.rt, dn.nx, nx⟩ en' S)
    (fin : ∀ en S, I xs en S → dn.nx en S) {en : Env} {S : Sto} (h0 : I [] en S) : wTurns t body ok W dn ((xs.map f).map Val.d) en S := by
  rw [List.map_map]
  exact turns_inv (Val.d ∘ f) xs I hok step fin h0
end
section
variable {α : Type} {t : Tg} {T : WT} {E : WE} {ok : Sto → Prop} {en : Env} {k : KA}
theorem lc_invM (g : α → PyData) (xs : List α) (I : List α → List Val → Sto → Prop) (hok : ∀ l acc S, I l acc S → ok S)
    (step : ∀ l x r acc S, xs = l ++ x :: r → I l acc S → ∃ en', t.w (.d (g x)) en = some en' ∧ ∀ k' : List Val → Sto → Prop, (∀ acc S, I (l ++ [x]) acc S → k' acc S) →
      T noX en' S fun b S1 => if b = true then E noX en' S1 fun y S2 => acc.length < 1000000 ∧ k' (acc ++ [y]) S2 else k' acc S1)
    (fin : ∀ acc S, I xs acc S → k acc S) {S : Sto} (h0 : I [] [] S) : wLcT t T E ok en k ((xs.map g).map Val.d) [] S := by
  rw [List.map_map]
  exact lc_inv (Val.d ∘ g) xs I hok step fin h0
theorem lc_pureM (g : α → PyData) (xs : List α) (p : α → Bool) (f : α → PyData) {S : Sto} (hok : ok S) (hl : xs.length ≤ 1000000)
    (step : ∀ x ∈ xs, ∃ en', t.w (.d (g x)) en = some en' ∧ (∀ k' : KB, k' (p x) S → T noX en' S k') ∧ (p x = true → ∀ k' : KE, k' (.d (f x)) S → E noX en' S k'))
    (fin : k (((xs.filter p).map f).map Val.d) S) : wLcT t T E ok en k ((xs.map g).map Val.d) [] S := by
  rw [List.map_map]
  exact lc_pure (Val.d ∘ g) xs p f hok hl step fin
theorem lc_mapM (g : α → PyData) (xs : List α) (f : α → PyData) {S : Sto} (hok : ok S) (hl : xs.length ≤ 1000000)
    (step : ∀ x ∈ xs, ∃ en', t.w (.d (g x)) en = some en' ∧ ∀ k' : KE, k' (.d (f x)) S → E noX en' S k') (fin : k ((xs.map f).map Val.d) S) : wLcT t wYes E ok en k ((xs.map g).map Val.d) [] S := by
  rw [List.map_map]
  exact lc_map (Val.d ∘ g) xs f hok hl step fin
end

/-! ### kinds of promise -/
/-- data alone: from arguments to an answer -/
def pureSp (n : Nat) (γ : Type) (args : γ → List PyData) (ok : γ → Prop) (res : γ → PyData) : Spec := ⟨n, γ, fun g ws S => ws = (args g).map Val.d ∧ S = [] ∧ ok g, fun g w S => w = .d (res g) ∧ S = [], fun _ _ _ => False, 0⟩
/-- the drawn numbers: two of them, in one list -/
def Src (o : Ob) : Prop := ∃ a b : Int, o = .lst [.d (.int a), .d (.int b)] ∧ 0 ≤ a ∧ 0 ≤ b ∧ b < 2147483647
/-- drawn: data by a source -/
def genSp (n : Nat) (γ : Type) (args : γ → List PyData) (ok : γ → Prop) (R : γ → PyData → Prop) : Spec := ⟨n, γ, fun g ws S => ws = .r 0 :: (args g).map Val.d ∧ (∃ o, S = [o] ∧ Src o) ∧ ok g,
  fun g w S => (∃ d, w = .d d ∧ R g d) ∧ ∃ o, S = [o] ∧ Src o, fun _ _ _ => False, 0⟩
theorem refsOf_d : ∀ l : List PyData, refsOf (l.map Val.d) = []
  | [] => rfl
  | _ :: l => refsOf_d l
theorem ren_d (js : List Nat) : ∀ l : List PyData, (l.map Val.d).map (ren js) = l.map Val.d
  | [] => rfl
  | _ :: l => by
    show _ :: _ = _
    rw [ren_d js l]
    rfl
section
variable {n : Nat} {γ : Type} {args : γ → List PyData} {ok : γ → Prop} {res : γ → PyData} {R : γ → PyData → Prop} {S : Sto} {k : KE} {kx : Exc → Sto → Prop}
theorem back_nil (S : Sto) : back S [] [] = S := by
  unfold back putAll
  simp
theorem call_pure (g : γ) (hn : (args g).length = n) (h : ok g) (q : k (.d (res g)) S) : callF (pureSp n γ args ok res) ((args g).map Val.d) S k kx := by
  refine ⟨by rw [List.length_map]; exact hn, ?_⟩
  rw [refsOf_d]
  refine ⟨g, ⟨ren_d _ _, rfl, h⟩, ?_, fun x T' z => z.elim⟩
  rintro w T' ⟨rfl, rfl⟩
  refine ⟨Nat.le_refl _, rfl, ?_⟩
  rw [back_nil]
  exact q
theorem src_pure {o : Ob} (h : Src o) : obPure o = true := by
  obtain ⟨a, b, rfl, _⟩ := h
  rfl
theorem call_gen {i : Nat} {o : Ob} (g : γ) (hn : (args g).length + 1 = n) (e : S[i]? = some o) (ho : Src o) (h : ok g) (q : ∀ d o', R g d → Src o' → k (.d d) (S.set i o')) : callF (genSp n γ args ok R) (.r i :: (args g).map Val.d) S k kx := by
  have rf : refsOf (.r i :: (args g).map Val.d) = [i] := by
    show i :: (refsOf ((args g).map Val.d)).filter _ = _
    rw [refsOf_d]
    rfl
  refine ⟨by rw [List.length_cons, List.length_map]; exact hn, ?_⟩
  rw [rf]
  unfold frame
  rw [e]
  simp only [src_pure ho, frame, if_true]
  refine ⟨g, ⟨?_, ⟨o, rfl, ho⟩, h⟩, ?_, fun x T' z => z.elim⟩
  · rw [List.map_cons, ren_d]
    simp [ren]
  · rintro w T' ⟨⟨d, rfl, hd⟩, o', rfl, ho'⟩
    refine ⟨Nat.le_refl _, by simp [src_pure ho'], ?_⟩
    show k (.d d) (back S [i] [o'])
    unfold back putAll
    simp only [putAll, List.length_cons, List.length_nil, List.drop_succ_cons, List.drop_nil, List.append_nil]
    exact q d o' hd ho'
end
/-- a def that keeps pureSp -/
theorem keeps_pure {N : List Str} {n : Nat} {γ : Type} {args : γ → List PyData} {ok : γ → Prop} {res : γ → PyData} {G : WS}
    (h : ∀ (W : XQ) (dn : DN) (g : γ), ok g → (∀ S, dn.rt (.d (res g)) S) → (res g = .none → ∀ en S, dn.nx en S) → G W dn (startE N ((args g).map Val.d)) []) : Keeps N (pureSp n γ args ok res) G := by
  rintro g ws S hl ⟨rfl, rfl, hok⟩
  refine h _ _ g hok (fun S => ⟨⟨rfl, True.intro⟩, rfl, rfl⟩) fun e en S => ⟨⟨rfl, True.intro⟩, by rw [e], rfl⟩
end DL

set_option Elab.async false
set_option linter.all false
set_option maxRecDepth 100000
set_option maxHeartbeats 4000000
/-! DL13: the readings' steps, one rule each (from what is left to show). -/
namespace DL
open PySem PySem.Spec PyProof.Rows L2
section
variable {W : XQ} {dn : DN} {en : Env} {S : Sto} {k : KE} {kb : KB} {ka : KA} {ki : KI} {F G : WS} {Fa Fb Fc Fe Fi Fo Fv : WE} {T T2 : WT} {A : WA} {r r' : R2D} {i j : Nat} {w : Val} {t : Tg} {I : WI}
theorem i_seq (h : F W ⟨G W dn, dn.rt, dn.bk, dn.ct⟩ en S) : wSeq F G W dn en S := h
theorem i_seqJ (h : ∀ R : Pt, R = G W dn → F W ⟨R, dn.rt, dn.bk, dn.ct⟩ en S) : wSeq F G W dn en S := h _ rfl
theorem i_skip (h : dn.nx en S) : wSkip W dn en S := h
theorem i_brk (h : dn.bk en S) : wBrk W dn en S := h
theorem i_cnt (h : dn.ct en S) : wCnt W dn en S := h
theorem i_expr (h : Fe W en S fun _ S1 => dn.nx en S1) : wExpr Fe W dn en S := h
theorem i_ret (h : Fe W en S dn.rt) : wRet Fe W dn en S := h
theorem i_if (h : T W en S fun b S1 => if b = true then F W dn en S1 else G W dn en S1) : wIf T F G W dn en S := h
theorem i_ifJ (h : ∀ K : KB, (∀ S, F W dn en S → K true S) → (∀ S, G W dn en S → K false S) → T W en S K) : wIf T F G W dn en S := h _ (fun _ h => h) fun _ h => h
theorem i_set (h : Fe W en S fun w S1 => dn.nx (en.set i (some w)) S1) : wSet i Fe W dn en S := h
theorem i_asg (h : Fe W en S fun w S1 => match t.w w en with
  | some en' => dn.nx en' S1
  | none => False) : wAsg t Fe W dn en S := h
theorem i_par2 {w1 w2 : WE} (h : w1 W en S fun x S1 => w2 W en S1 fun y S2 => dn.nx ((en.set i (some x)).set j (some y)) S2) : wPar [i, j] (wCons w1 (wCons w2 wNil)) W dn en S := by
  show w1 W en S fun x S1 => w2 W en S1 fun y S2 => [x, y].length = 2 ∧ dn.nx _ S2
  have e : ∀ (x y : Val) (S2 : Sto), ([x, y].length = 2 ∧ dn.nx ((en.set i (some x)).set j (some y)) S2) = dn.nx ((en.set i (some x)).set j (some y)) S2 := fun x y S2 => propext ⟨fun h => h.2, fun h => ⟨rfl, h⟩⟩
  simp only [List.zip_cons_cons, List.zip_nil_right, List.foldl_cons, List.foldl_nil, e]
  exact h
theorem i_par3 {w1 w2 w3 : WE} {l : Nat} (h : w1 W en S fun x S1 => w2 W en S1 fun y S2 => w3 W en S2 fun z S3 => dn.nx (((en.set i (some x)).set j (some y)).set l (some z)) S3) : wPar [i, j, l] (wCons w1 (wCons w2 (wCons w3 wNil))) W dn en S := by
  show w1 W en S fun x S1 => w2 W en S1 fun y S2 => w3 W en S2 fun z S3 => [x, y, z].length = 3 ∧ dn.nx _ S3
  have e : ∀ (x y z : Val) (S3 : Sto), ([x, y, z].length = 3 ∧ dn.nx (((en.set i (some x)).set j (some y)).set l (some z)) S3) = dn.nx (((en.set i (some x)).set j (some y)).set l (some z)) S3 := fun x y z S2 => propext ⟨fun h => h.2, fun h => ⟨rfl, h⟩⟩
  simp only [List.zip_cons_cons, List.zip_nil_right, List.foldl_cons, List.foldl_nil, e]
  exact h
theorem i_store (h : Fv W en S fun v S1 => Fo W en S1 fun o S2 => Fi W en S2 fun i S3 => vStore o i v S3 fun S4 => dn.nx en S4) : wStore Fo Fi Fv W dn en S := h
theorem i_aug (e : (en[i]?).join = some w) (h : Fe W en S fun y S1 => r w y S1 fun z S2 => dn.nx (en.set i (some z)) S2) : wAug i Fe r W dn en S := by
  unfold wAug
  rw [e]
  exact h
theorem i_for (h : I W en S fun ws ok S1 => wTurns t F ok W dn ws en S1) : wFor t I F W dn en S := h
theorem i_var (e : (en[i]?).join = some w) (h : k w S) : wVar i W en S k := by
  unfold wVar
  rw [e]
  exact h
theorem i_c {x : PyData} (h : k (.d x) S) : wC x W en S k := h
theorem i_op (h : Fa W en S fun x S1 => Fb W en S1 fun y S2 => r x y S2 k) : wOp r Fa Fb W en S k := h
theorem i_cmpT (h : wOp r Fa Fb W en S (kB kb)) : wCmpT r Fa Fb W en S kb := h
theorem i_kB {b : Bool} (h : kb b S) : kB kb (.d (.bool b)) S := h
theorem i_chain (h : Fa W en S fun x S1 => Fb W en S1 fun y S2 => r x y S2 fun z S3 => match z with
  | .d (.bool b) => if b = true then Fc W en S3 fun w S4 => r' y w S4 k else k (.d (.bool false)) S3
  | _ => False) : wChain r r' Fa Fb Fc W en S k := h
theorem i_chainT (h : wChain r r' Fa Fb Fc W en S (kB kb)) : wChainT r r' Fa Fb Fc W en S kb := h
theorem i_un {u : R1D} (h : Fa W en S fun x S1 => u x S1 k) : wUn u Fa W en S k := h
theorem i_cb {u : RCD} (h : A W en S fun ws S1 => u ws S1 k) : wCB u A W en S k := h
theorem i_bm {T : String} {u : RMD} (h : Fa W en S fun x S1 => okT T S1 x ∧ A W en S1 fun ws S2 => u x ws S2 k) : wBM T u Fa A W en S k := h
theorem i_nil (h : ka [] S) : wNil W en S ka := h
theorem i_cons (h : Fa W en S fun x S1 => A W en S1 fun xs S2 => ka (x :: xs) S2) : wCons Fa A W en S ka := h
theorem i_tup (h : A W en S fun ws S1 => ws.length ≤ 1000000 ∧ match dats ws with
  | some xs => k (.d (.tuple xs)) S1
  | none => False) : wTup A W en S k := h
theorem i_lst (h : A W en S fun ws S1 => ws.length ≤ 1000000 ∧ match dats ws with
  | some xs => k (.d (.list xs)) S1
  | none => False) : wLst A W en S k := h
theorem i_lstM (h : A W en S fun ws S1 => ws.length ≤ 1000000 ∧ k (.r S1.length) (S1 ++ [.lst ws])) : wLstM A W en S k := h
theorem i_frz (h : Fa W en S fun w S1 => vFrz w S1 k) : wFrz Fa W en S k := h
theorem i_tru (h : Fa W en S fun w S1 => vTru S1 w fun b => kb b S1) : wTru Fa W en S kb := h
theorem i_and (h : T W en S fun b S1 => if b = true then T2 W en S1 kb else kb false S1) : wAnd T T2 W en S kb := h
theorem i_or (h : T W en S fun b S1 => if b = true then kb true S1 else T2 W en S1 kb) : wOr T T2 W en S kb := h
theorem i_not (h : T W en S fun b S1 => kb (!b) S1) : wNot T W en S kb := h
theorem i_andV (h : Fa W en S fun x S1 => match x with
  | .d (.bool b) => if b = true then Fb W en S1 k else k (.d (.bool false)) S1
  | _ => False) : wAndV Fa Fb W en S k := h
theorem i_orV (h : Fa W en S fun x S1 => match x with
  | .d (.bool b) => if b = true then k (.d (.bool true)) S1 else Fb W en S1 k
  | _ => False) : wOrV Fa Fb W en S k := h
theorem i_notV (h : Fa W en S fun x S1 => match x with
  | .d (.bool b) => k (.d (.bool (!b))) S1
  | _ => False) : wNotV Fa W en S k := h
theorem i_ifE (h : T W en S fun b S1 => if b = true then Fa W en S1 k else Fb W en S1 k) : wIfE T Fa Fb W en S k := h
theorem i_call {sp : Spec} (h : A W en S fun ws S1 => callF sp ws S1 k fun x S2 => W x en S2) : wCall sp A W en S k := h
theorem i_callW {sp : Spec} (h : A W en S fun ws S1 => callW sp ws S1 k fun x S2 => W x en S2) : wCallW sp A W en S k := h
theorem i_sl {u : RSD} {L U : WO} (h : Fa W en S fun x S1 => L W en S1 fun lo S2 => U W en S2 fun hi S3 => u x lo hi S3 k) : wSl u Fa L U W en S k := h
theorem i_noP {ko : Option Int → Sto → Prop} (h : ko none S) : wNoP W en S ko := h
theorem i_p {ko : Option Int → Sto → Prop} (h : Fa W en S fun w S1 => match w with
  | .d (.int i) => ko (some i) S1
  | _ => False) : wP Fa W en S ko := h
theorem i_lc {vs : List Nat} (h : wLcA vs t I T Fe W en S fun ws S1 => match dats ws with
  | some xs => k (.d (.list xs)) S1
  | none => False) : wLc vs t I T Fe W en S k := h
theorem i_lcM {vs : List Nat} (h : wLcA vs t I T Fe W en S fun ws S1 => k (.r S1.length) (S1 ++ [.lst ws])) : wLcM vs t I T Fe W en S k := h
theorem i_lcA {vs : List Nat} (hv : t.sl.all (fun i => decide (i ∈ vs)) = true) (h : I W en S fun ws ok S1 => wLcT t T Fe ok (wipeE en vs) ka ws [] S1) : wLcA vs t I T Fe W en S ka :=
  ⟨fun i hi => of_decide_eq_true (List.all_eq_true.mp hv i hi), h⟩
theorem i_yes (h : kb true S) : wYes W en S kb := h
theorem i_rng1 (h : Fa W en S fun w S1 => match w with
  | .d (.int n) => n ≤ 1000000 ∧ -1000000 ≤ n ∧ ki (rgL 0 n) (fun _ => True) S1
  | _ => False) : wRng1 Fa W en S ki := h
theorem i_rng2 (h : Fa W en S fun w S1 => Fb W en S1 fun z S2 => match w, z with
  | .d (.int a), .d (.int b) => (a ≤ 1000000 ∧ -1000000 ≤ a ∧ b ≤ 1000000 ∧ -1000000 ≤ b) ∧ ki (rgL a b) (fun _ => True) S2
  | _, _ => False) : wRng2 Fa Fb W en S ki := h
theorem i_itSeq (h : Fa W en S fun w S1 => vItSeq w S1 ki) : wItSeq Fa W en S ki := h
/-! values -/
theorem i_ite {b : Bool} {A B : Prop} (h1 : b = true → A) (h2 : b = false → B) : if b = true then A else B := by
  cases b with
  | true => exact h1 rfl
  | false => exact h2 rfl
theorem i_iteT {A B : Prop} (h : A) : if true = true then A else B := h
theorem i_iteF {A B : Prop} (h : B) : if false = true then A else B := h
theorem i_iteTr {b : Bool} {A B : Prop} (e : b = true) (h : A) : if b = true then A else B := by
  rw [e]
  exact h
theorem i_iteFr {b : Bool} {A B : Prop} (e : b = false) (h : B) : if b = true then A else B := by
  rw [e]
  exact h
theorem i_andP {p q : Bool} (h1 : ∀ kb : KB, kb p S → T W en S kb) (h2 : p = true → ∀ kb : KB, kb q S → T2 W en S kb) (h : kb (p && q) S) : wAnd T T2 W en S kb := h1 _ (i_ite (fun e => h2 e _ (by rw [e] at h; exact h)) (fun e => by rw [e] at h; exact h))
theorem i_orP {p q : Bool} (h1 : ∀ kb : KB, kb p S → T W en S kb) (h2 : p = false → ∀ kb : KB, kb q S → T2 W en S kb) (h : kb (p || q) S) : wOr T T2 W en S kb := h1 _ (i_ite (fun e => by rw [e] at h; exact h) (fun e => h2 e _ (by rw [e] at h; exact h)))
theorem i_andVP {p q : Bool} (h1 : ∀ k : KE, k (.d (.bool p)) S → Fa W en S k) (h2 : p = true → ∀ k : KE, k (.d (.bool q)) S → Fb W en S k) (h : k (.d (.bool (p && q))) S) : wAndV Fa Fb W en S k := h1 _ (i_ite (fun e => h2 e _ (by rw [e] at h; exact h)) (fun e => by rw [e] at h; exact h))
theorem i_orVP {p q : Bool} (h1 : ∀ k : KE, k (.d (.bool p)) S → Fa W en S k) (h2 : p = false → ∀ k : KE, k (.d (.bool q)) S → Fb W en S k) (h : k (.d (.bool (p || q))) S) : wOrV Fa Fb W en S k := h1 _ (i_ite (fun e => by rw [e] at h; exact h) (fun e => h2 e _ (by rw [e] at h; exact h)))
theorem i_mtup {xs : List PyData} {ws : List Val} (e : dats ws = some xs) (h : k (.d (.tuple xs)) S) : match dats ws with
  | some xs => k (.d (.tuple xs)) S
  | none => False := by
  rw [e]
  exact h
theorem i_mlst {xs : List PyData} {ws : List Val} (e : dats ws = some xs) (h : k (.d (.list xs)) S) : match dats ws with
  | some xs => k (.d (.list xs)) S
  | none => False := by
  rw [e]
  exact h
variable {a b : Int} {xs ys : List PyData} {d e : PyData} {x y : Val}
theorem v_I {C : Int → Int → Prop} {g : Int → Int → PyData} (c : C a b) (h : k (.d (g a b)) S) : vI C g (.d (.int a)) (.d (.int b)) S k := ⟨c, h⟩
theorem v_add (h : k (.d (.int (a + b))) S) : vAdd (.d (.int a)) (.d (.int b)) S k := h
theorem v_addT (c : xs.length + ys.length ≤ 1000000) (h : k (.d (.tuple (xs ++ ys))) S) : vAdd (.d (.tuple xs)) (.d (.tuple ys)) S k := ⟨c, h⟩
theorem v_addL (c : xs.length + ys.length ≤ 1000000) (h : k (.d (.list (xs ++ ys))) S) : vAdd (.d (.list xs)) (.d (.list ys)) S k := by
  unfold vAdd
  simp only [lstW]
  rw [← List.map_append, dats_map]
  exact ⟨by simpa using c, h⟩
theorem v_mul (c : MulOk a b) (h : k (.d (.int (a * b))) S) : vMul (.d (.int a)) (.d (.int b)) S k := ⟨c, h⟩
theorem mulL (h : -18446744073709551616 < a ∧ a < 18446744073709551616) : MulOk a b := .inl h
theorem mulR (h : -18446744073709551616 < b ∧ b < 18446744073709551616) : MulOk a b := .inr (.inl h)
theorem v_neg (h : k (.d (.int (-a))) S) : vNeg (.d (.int a)) S k := h
theorem v_eq {dx dy : PyData} (e1 : datW S x = some dx) (e2 : datW S y = some dy) (s1 : Sh dx) (s2 : Sh dy) (h : k (.d (.bool (PyData.eqv dx dy))) S) : vEq x y S k := by
  unfold vEq
  rw [e1, e2]
  exact ⟨s1, s2, h⟩
theorem v_ne {dx dy : PyData} (e1 : datW S x = some dx) (e2 : datW S y = some dy) (s1 : Sh dx) (s2 : Sh dy) (h : k (.d (.bool (!PyData.eqv dx dy))) S) : vNe x y S k := by
  unfold vNe
  rw [e1, e2]
  exact ⟨s1, s2, h⟩
theorem v_eqI (h : k (.d (.bool (decide (a = b)))) S) : vEq (.d (.int a)) (.d (.int b)) S k := ⟨rfl, rfl, by
  have z : PyData.eqv (.int a) (.int b) = decide (a = b) := by simp [PyData.eqv]; rfl
  show k (.d (.bool (PyData.eqv (.int a) (.int b)))) S
  rw [z]
  exact h⟩
theorem v_neI (h : k (.d (.bool (!decide (a = b)))) S) : vNe (.d (.int a)) (.d (.int b)) S k := ⟨rfl, rfl, by
  have z : PyData.eqv (.int a) (.int b) = decide (a = b) := by simp [PyData.eqv]; rfl
  show k (.d (.bool (!PyData.eqv (.int a) (.int b)))) S
  rw [z]
  exact h⟩
theorem v_isNon {neg : Bool} (h : k (.d (.bool (isNon d != neg))) S) : vIsN neg (.d d) (.d .none) S k := h
theorem v_isBl {neg p q : Bool} (h : k (.d (.bool (decide (p = q) != neg))) S) : vIsN neg (.d (.bool p)) (.d (.bool q)) S k := h
theorem v_ixT (e : itm xs a = some d) (h : k (.d d) S) : vIx (.d (.tuple xs)) (.d (.int a)) S k := by
  unfold vIx
  simp only [e]
  exact h
theorem v_ixL (e : itm xs a = some d) (h : k (.d d) S) : vIx (.d (.list xs)) (.d (.int a)) S k := by
  unfold vIx
  simp only [e]
  exact h
theorem v_ixM {ws : List Val} (e : S[i]? = some (.lst ws)) (e2 : itm ws a = some w) (h : k w S) : vIx (.r i) (.d (.int a)) S k := by
  unfold vIx
  simp only [e, e2]
  exact h
theorem v_ixR {ws : List Val} (e : S[i]? = some (.ro ws)) (e2 : itm ws a = some w) (h : k w S) : vIx (.r i) (.d (.int a)) S k := by
  unfold vIx
  simp only [e, e2]
  exact h
theorem v_ixS (e : itm xs a = some d) (h : k (.d d) S) : vIx (.s xs) (.d (.int a)) S k := by
  unfold vIx
  simp only [e]
  exact h
theorem v_slT {lo hi : Option Int} (h : k (.d (.tuple (cut xs lo hi))) S) : vSl (.d (.tuple xs)) lo hi S k := h
theorem v_slL {lo hi : Option Int} (h : k (.d (.list (cut xs lo hi))) S) : vSl (.d (.list xs)) lo hi S k := by
  unfold vSl
  have z : cut (xs.map Val.d) lo hi = (cut xs lo hi).map Val.d := by
    unfold cut
    simp [List.map_take, List.map_drop]
  simp only [lsrW, z, dats_map]
  exact h
theorem v_lenT (h : k (.d (.int xs.length)) S) : vLen [.d (.tuple xs)] S k := h
theorem v_lenL (h : k (.d (.int xs.length)) S) : vLen [.d (.list xs)] S k := h
theorem v_lenS (h : k (.d (.int xs.length)) S) : vLen [.s xs] S k := h
theorem v_lenM {ws : List Val} (e : S[i]? = some (.lst ws)) (h : k (.d (.int ws.length)) S) : vLen [.r i] S k := by
  unfold vLen
  simp only [e]
  exact h
theorem v_lenR {ws : List Val} (e : S[i]? = some (.ro ws)) (h : k (.d (.int ws.length)) S) : vLen [.r i] S k := by
  unfold vLen
  simp only [e]
  exact h
theorem v_max2 (h : k (.d (.int (if b > a then b else a))) S) : vMax2 [.d (.int a), .d (.int b)] S k := h
theorem v_min2 (h : k (.d (.int (if b < a then b else a))) S) : vMin2 [.d (.int a), .d (.int b)] S k := h
theorem lsI_d {ns : List Int} : lsI S (.d (.list (ns.map PyData.int))) = some ns := by
  unfold lsI
  simp only [lsrW, dats_map]
  induction ns with
  | nil => rfl
  | cons n ns ih => simp [intsD, ih]
theorem lsB_d {ns : List Bool} : lsB S (.d (.list (ns.map PyData.bool))) = some ns := by
  unfold lsB
  simp only [lsrW, dats_map]
  induction ns with
  | nil => rfl
  | cons n ns ih => simp [blsD, ih]
theorem lsI_f {α : Type} {l : List α} {f : α → Int} : lsI S (.d (.list (l.map fun x => PyData.int (f x)))) = some (l.map f) := by
  have z : (l.map fun x => PyData.int (f x)) = (l.map f).map PyData.int := by rw [List.map_map]; rfl
  rw [z]
  exact lsI_d
theorem lsB_f {α : Type} {l : List α} {f : α → Bool} : lsB S (.d (.list (l.map fun x => PyData.bool (f x)))) = some (l.map f) := by
  have z : (l.map fun x => PyData.bool (f x)) = (l.map f).map PyData.bool := by rw [List.map_map]; rfl
  rw [z]
  exact lsB_d
theorem v_max1 {ns : List Int} (e : lsI S w = some ns) (c : ns ≠ []) (h : k (.d (.int (maxI ns))) S) : vMax1 [w] S k := by
  unfold vMax1
  simp only [e]
  exact ⟨c, h⟩
theorem v_min1 {ns : List Int} (e : lsI S w = some ns) (c : ns ≠ []) (h : k (.d (.int (minI ns))) S) : vMin1 [w] S k := by
  unfold vMin1
  simp only [e]
  exact ⟨c, h⟩
theorem v_sum1 {ns : List Int} (e : lsI S w = some ns) (h : k (.d (.int ns.sum)) S) : vSum1 [w] S k := by
  unfold vSum1
  simp only [e]
  exact h
theorem v_all {ns : List Bool} (e : lsB S w = some ns) (h : k (.d (.bool (ns.all id))) S) : vAll [w] S k := by
  unfold vAll
  simp only [e]
  exact h
theorem v_allF {α : Type} {l : List α} {f : α → Bool} (h : k (.d (.bool (l.all f))) S) : vAll [.d (.list (l.map fun x => PyData.bool (f x)))] S k := v_all lsB_f (by rw [List.all_map]; exact h)
theorem v_int (h : k (.d (.int a)) S) : vInt [.d (.int a)] S k := h
theorem v_intB {b : Bool} (h : k (.d (.int (if b then 1 else 0))) S) : vInt [.d (.bool b)] S k := h
theorem v_tupT (h : k (.d (.tuple xs)) S) : vTuple [.d (.tuple xs)] S k := h
theorem v_tupL (h : k (.d (.tuple xs)) S) : vTuple [.d (.list xs)] S k := by
  unfold vTuple
  simp only [lsrW, dats_map]
  exact h
theorem v_tupM {ws : List Val} (e : S[i]? = some (.lst ws)) (e2 : dats ws = some xs) (h : k (.d (.tuple xs)) S) : vTuple [.r i] S k := by
  unfold vTuple
  simp only [lsrW, e, e2]
  exact h
theorem v_listT (h : k (.d (.list xs)) S) : vList [.d (.tuple xs)] S k := by
  unfold vList
  simp only [seqW, dats_map]
  exact h
theorem v_listL (h : k (.d (.list xs)) S) : vList [.d (.list xs)] S k := by
  unfold vList
  simp only [seqW, dats_map]
  exact h
theorem v_reprB {b : Bool} (h : k (.d (.str (if b then "True" else "False"))) S) : vRepr [.d (.bool b)] S k := h
theorem v_reprN (h : k (.d (.str "None")) S) : vRepr [.d .none] S k := h
theorem itm_of {α : Type} {xs : List α} {x : α} {i : Int} {n : Nat} (h : i = (n : Nat)) (e : xs[n]? = some x) : itm xs i = some x := by
  subst h
  unfold itm
  rw [if_pos (by omega)]
  exact e
theorem v_ixTm {α : Type} {l : List α} {f : α → PyData} {x : α} {n : Nat} (h : a = (n : Nat)) (e : l[n]? = some x) (q : k (.d (f x)) S) : vIx (.d (.tuple (l.map f))) (.d (.int a)) S k := v_ixT (itm_of h (by rw [List.getElem?_map, e]; rfl)) q
theorem v_ixLm {α : Type} {l : List α} {f : α → PyData} {x : α} {n : Nat} (h : a = (n : Nat)) (e : l[n]? = some x) (q : k (.d (f x)) S) : vIx (.d (.list (l.map f))) (.d (.int a)) S k := v_ixL (itm_of h (by rw [List.getElem?_map, e]; rfl)) q
theorem v_ixSm {α : Type} {l : List α} {f : α → PyData} {x : α} {n : Nat} (h : a = (n : Nat)) (e : l[n]? = some x) (q : k (.d (f x)) S) : vIx (.s (l.map f)) (.d (.int a)) S k := v_ixS (itm_of h (by rw [List.getElem?_map, e]; rfl)) q
theorem v_stM {ws : List Val} {n : Nat} {ks : Sto → Prop} (e : S[i]? = some (.lst ws)) (h : a = (n : Nat)) (c : n < ws.length) (q : ks (S.set i (.lst (ws.set n w)))) : vStore (.r i) (.d (.int a)) w S ks := by
  unfold vStore
  simp only [e, itm_of h (show (List.range ws.length)[n]? = some n by rw [List.getElem?_range c])]
  exact q
theorem v_isi {n : String} (h : k (.d (.bool (isT n d))) S) : vIsi n (.d d) S k := h
theorem v_append {ws : List Val} (e : S[i]? = some (.lst ws)) (c : ws.length < 1000000) (h : k (.d .none) (S.set i (.lst (ws ++ [w])))) : vAppend (.r i) [w] S k := by
  unfold vAppend
  simp only [e]
  exact ⟨c, h⟩
theorem v_pop {ws : List Val} (e : S[i]? = some (.lst ws)) (e2 : ws[ws.length - 1]? = some w) (h : k w (S.set i (.lst ws.dropLast))) : vPop (.r i) [] S k := by
  unfold vPop
  simp only [e, e2]
  exact h
theorem v_frzM {ws : List Val} (e : S[i]? = some (.lst ws)) (e2 : dats ws = some xs) (h : k (.d (.list xs)) (S.set i .dead)) : vFrz (.r i) S k := by
  unfold vFrz
  simp only [e, e2]
  exact h
theorem v_frzD (h : k (.d d) S) : vFrz (.d d) S k := h
theorem v_itT (h : ki (xs.map Val.d) (fun _ => True) S) : vItSeq (.d (.tuple xs)) S ki := h
theorem v_itL (h : ki (xs.map Val.d) (fun _ => True) S) : vItSeq (.d (.list xs)) S ki := h
theorem v_itS (h : ki (xs.map Val.d) (fun _ => True) S) : vItSeq (.s xs) S ki := h
theorem v_itM {ws : List Val} (e : S[i]? = some (.lst ws)) (h : ki ws (fun S => S[i]? = some (.lst ws)) S) : vItSeq (.r i) S ki := by
  unfold vItSeq
  simp only [e]
  exact h
theorem v_itR {ws : List Val} (e : S[i]? = some (.ro ws)) (h : ki ws (fun S => S[i]? = some (.ro ws)) S) : vItSeq (.r i) S ki := by
  unfold vItSeq
  simp only [e]
  exact h
theorem v_truB {b : Bool} {kp : Bool → Prop} (h : kp b) : vTru S (.d (.bool b)) kp := h
theorem v_truN {kp : Bool → Prop} (h : kp false) : vTru S (.d .none) kp := h
theorem v_truI {kp : Bool → Prop} (h : kp (a != 0)) : vTru S (.d (.int a)) kp := h
theorem v_truT {kp : Bool → Prop} (h : kp (!xs.isEmpty)) : vTru S (.d (.tuple xs)) kp := h
theorem v_truL {kp : Bool → Prop} (h : kp (!xs.isEmpty)) : vTru S (.d (.list xs)) kp := h
theorem v_truS {kp : Bool → Prop} (h : kp (!xs.isEmpty)) : vTru S (.s xs) kp := h
theorem v_truM {ws : List Val} {kp : Bool → Prop} (e : S[i]? = some (.lst ws)) (h : kp (!ws.isEmpty)) : vTru S (.r i) kp := by
  unfold vTru
  simp only [e]
  exact h
theorem v_truR {ws : List Val} {kp : Bool → Prop} (e : S[i]? = some (.ro ws)) (h : kp (!ws.isEmpty)) : vTru S (.r i) kp := by
  unfold vTru
  simp only [e]
  exact h
theorem o_lst {ws : List Val} (e : S[i]? = some (.lst ws)) : okT "list" S (.r i) := by
  unfold okT
  simp only [e]
theorem v_in {neg : Bool} {ws : List Val} (e1 : seqW S y = some ws) (e2 : dats ws = some xs) (c1 : flatD d = true) (c2 : xs.all flatD = true) (nstr : ∀ s, d ≠ .str s) (h : k (.d (.bool ((xs.any fun e => PyData.eqv e d) != neg))) S) : vIn neg (.d d) y S k := by
  cases d with
  | str s => exact absurd rfl (nstr s)
  | _ =>
    simp only [vIn, e1, e2]
    exact ⟨c1, c2, h⟩
theorem any_eqvI (a : Int) : ∀ ns : List Int, ((ns.map PyData.int).any fun e => PyData.eqv e (.int a)) = decide (a ∈ ns)
  | [] => rfl
  | n :: ns => by
    rw [List.map_cons, List.any_cons, any_eqvI a ns]
    have z : PyData.eqv (.int n) (.int a) = decide (n = a) := by simp [PyData.eqv]; rfl
    rw [z]
    by_cases h1 : n = a
    · simp [h1]
    · have h2 : ¬ a = n := fun e => h1 e.symm
      simp [h1, h2]
theorem flat_ints : ∀ ns : List Int, (ns.map PyData.int).all flatD = true
  | [] => rfl
  | n :: ns => by
    rw [List.map_cons, List.all_cons, flat_ints ns]
    rfl
theorem v_inI {neg : Bool} (ns : List Int) (e1 : seqW S y = some ((ns.map PyData.int).map Val.d)) (h : k (.d (.bool (decide (a ∈ ns) != neg))) S) : vIn neg (.d (.int a)) y S k := by
  refine v_in e1 (dats_map _) rfl (flat_ints ns) (fun _ z => by cases z) ?_
  rw [any_eqvI]
  exact h
theorem v_mulLs (c1 : -1000000 ≤ a ∧ a ≤ 1000000) (c2 : xs.length * a.toNat ≤ 1000000) (h : k (.d (.list (List.replicate a.toNat xs).flatten)) S) : vMul (.d (.list xs)) (.d (.int a)) S k := by
  simp only [vMul, lstW, dats_map]
  exact ⟨c1.1, c1.2, by simpa using c2, h⟩
/-! the newest object -/
theorem last_get (S : Sto) (o : Ob) : (S ++ [o])[S.length]? = some o := by simp
theorem last_set (S : Sto) (o o' : Ob) : (S ++ [o]).set S.length o' = S ++ [o'] := by simp
theorem v_appendE {ws : List Val} (c : ws.length < 1000000) (h : k (.d .none) (S ++ [.lst (ws ++ [w])])) : vAppend (.r S.length) [w] (S ++ [.lst ws]) k := v_append (last_get S _) c (by rw [last_set]; exact h)
theorem v_frzE (h : k (.d (.list xs)) (S ++ [.dead])) : vFrz (.r S.length) (S ++ [.lst (xs.map Val.d)]) k := v_frzM (last_get S _) (dats_map _) (by rw [last_set]; exact h)
theorem v_tupE (h : k (.d (.tuple xs)) (S ++ [.lst (xs.map Val.d)])) : vTuple [.r S.length] (S ++ [.lst (xs.map Val.d)]) k := v_tupM (last_get S _) (dats_map _) h
theorem v_lenE {ws : List Val} (h : k (.d (.int ws.length)) (S ++ [.lst ws])) : vLen [.r S.length] (S ++ [.lst ws]) k := v_lenM (last_get S _) h
theorem v_truE {ws : List Val} {kp : Bool → Prop} (h : kp (!ws.isEmpty)) : vTru (S ++ [.lst ws]) (.r S.length) kp := v_truM (last_get S _) h
theorem o_lstE {ws : List Val} : okT "list" (S ++ [.lst ws]) (.r S.length) := o_lst (last_get S _)
/-! what == may look at -/
def shN (n : Nat) (d : PyData) : Prop := PyData.canLay0 d = true ∧ PyData.depth d ≤ n
theorem Sh.of {n : Nat} {d : PyData} (h : shN n d) (hn : n ≤ 64 := by decide) : Sh d := by
  show (PyData.canLay0 d && decide (PyData.depth d ≤ 64)) = true
  rw [h.1, decide_eq_true (Nat.le_trans h.2 hn)]
  rfl
theorem shN.mono {n m : Nat} {d : PyData} (h : shN n d) (hn : n ≤ m) : shN m d := ⟨h.1, Nat.le_trans h.2 hn⟩
theorem shN_int {n : Nat} {i : Int} : shN n (.int i) := ⟨rfl, Nat.zero_le _⟩
theorem shN_bool {n : Nat} {i : Bool} : shN n (.bool i) := ⟨rfl, Nat.zero_le _⟩
theorem shN_none {n : Nat} : shN n .none := ⟨rfl, Nat.zero_le _⟩
theorem shN_all {n : Nat} : ∀ {xs : List PyData}, (∀ x ∈ xs, shN n x) → PyData.canLayAll0 xs = true ∧ PyData.depthAll xs ≤ n
  | [], _ => ⟨rfl, Nat.zero_le _⟩
  | x :: xs, h => by
    have h1 := h x List.mem_cons_self
    have h2 := shN_all fun y hy => h y (List.mem_cons_of_mem _ hy)
    exact ⟨by rw [PyData.canLayAll0, h1.1, h2.1]; rfl, by rw [PyData.depthAll]; exact Nat.max_le.mpr ⟨h1.2, h2.2⟩⟩
theorem shN_tup {n : Nat} {xs : List PyData} (h : ∀ x ∈ xs, shN n x) : shN (n + 1) (.tuple xs) := ⟨by rw [PyData.canLay0]; exact (shN_all h).1, by rw [PyData.depth]; exact Nat.succ_le_succ (shN_all h).2⟩
theorem shN_lst {n : Nat} {xs : List PyData} (h : ∀ x ∈ xs, shN n x) : shN (n + 1) (.list xs) := ⟨by rw [PyData.canLay0]; exact (shN_all h).1, by rw [PyData.depth]; exact Nat.succ_le_succ (shN_all h).2⟩
theorem eqv_nilL (xs : List PyData) : PyData.eqv (.list xs) (.list []) = xs.isEmpty := by cases xs <;> simp [PyData.eqv, PyData.eqvAll]
theorem eqv_nilT (xs : List PyData) : PyData.eqv (.tuple xs) (.tuple []) = xs.isEmpty := by cases xs <;> simp [PyData.eqv, PyData.eqvAll]
end
end DL

set_option Elab.async false
set_option linter.all false
set_option maxRecDepth 100000
set_option maxHeartbeats 4000000
/-! DL14: the readings' steps, found by their heads (instances). -/
namespace DL
open PySem PySem.Spec PyProof.Rows L2
/-- one step: from n to g -/
class Stp (g : Prop) (n : outParam Prop) : Prop where
  h : n → g
/-- one step under a condition -/
class Stc (g : Prop) (c n : outParam Prop) : Prop where
  h : c → n → g
class Get (en : Env) (i : Nat) (w : outParam Val) : Prop where
  eq : (en[i]?).join = some w
class Put (en : Env) (i : Nat) (f : outParam (Option Val → Env)) : Prop where
  eq : ∀ x, en.set i x = f x
instance {w : Val} {l : Env} : Get (some w :: l) 0 w := ⟨rfl⟩
instance {a : Option Val} {w : Val} {l : Env} {i : Nat} [h : Get l i w] : Get (a :: l) (i + 1) w := ⟨by rw [← h.eq]; rfl⟩
instance {a : Option Val} {l : Env} : Put (a :: l) 0 (fun x => x :: l) := ⟨fun _ => rfl⟩
instance {a : Option Val} {l : Env} {i : Nat} {f : Option Val → Env} [h : Put l i f] : Put (a :: l) (i + 1) (fun x => a :: f x) := ⟨fun x => by rw [← h.eq x]; rfl⟩
/-- the store at a number -/
class StG (S : Sto) (i : Nat) (o : outParam Ob) : Prop where
  eq : S[i]? = some o
class StP (S : Sto) (i : Nat) (f : outParam (Ob → Sto)) : Prop where
  eq : ∀ x, S.set i x = f x
class Ln (S : Sto) (n : outParam Nat) : Prop where
  eq : S.length = n
instance (priority := 500) {S : Sto} : Ln S S.length := ⟨rfl⟩
instance : Ln [] 0 := ⟨rfl⟩
instance {a : Ob} : Ln [a] 1 := ⟨rfl⟩
instance {a b : Ob} : Ln [a, b] 2 := ⟨rfl⟩
instance {a b c : Ob} : Ln [a, b, c] 3 := ⟨rfl⟩
instance {a b c d : Ob} : Ln [a, b, c, d] 4 := ⟨rfl⟩
instance {a b c d e : Ob} : Ln [a, b, c, d, e] 5 := ⟨rfl⟩
instance {a b c d e f : Ob} : Ln [a, b, c, d, e, f] 6 := ⟨rfl⟩
instance {a b c d e f g : Ob} : Ln [a, b, c, d, e, f, g] 7 := ⟨rfl⟩
instance {a b c d e f g h : Ob} : Ln [a, b, c, d, e, f, g, h] 8 := ⟨rfl⟩
/-- one more object at the end -/
class Snc (S : Sto) (f : outParam (Ob → Sto)) : Prop where
  eq : ∀ x, S ++ [x] = f x
instance (priority := 500) {S : Sto} : Snc S (fun x => S ++ [x]) := ⟨fun _ => rfl⟩
instance : Snc [] (fun x => [x]) := ⟨fun _ => rfl⟩
instance {a : Ob} {l : Sto} {f : Ob → Sto} [h : Snc l f] : Snc (a :: l) (fun x => a :: f x) := ⟨fun x => by rw [← h.eq x]; rfl⟩
instance {o : Ob} {l : Sto} : StG (o :: l) 0 o := ⟨rfl⟩
instance {a o : Ob} {l : Sto} {i : Nat} [h : StG l i o] : StG (a :: l) (i + 1) o := ⟨by rw [← h.eq]; rfl⟩
instance {o : Ob} {S : Sto} : StG (S ++ [o]) S.length o := ⟨last_get S o⟩
instance {a : Ob} {l : Sto} : StP (a :: l) 0 (fun x => x :: l) := ⟨fun _ => rfl⟩
instance {a : Ob} {l : Sto} {i : Nat} {f : Ob → Sto} [h : StP l i f] : StP (a :: l) (i + 1) (fun x => a :: f x) := ⟨fun x => by rw [← h.eq x]; rfl⟩
instance {o : Ob} {S : Sto} : StP (S ++ [o]) S.length (fun x => S ++ [x]) := ⟨fun x => last_set S o x⟩
theorem snc2 (S : Sto) (a b : Ob) : (S ++ [a]) ++ [b] = S ++ [a, b] := by simp
/-- data alone, at most so many -/
class DatL (ws : List Val) (xs : outParam (List PyData)) (f : Nat) : Prop where
  eq : dats ws = some xs
  len : ws.length ≤ f
instance {f : Nat} : DatL [] [] f := ⟨rfl, Nat.zero_le _⟩
instance {x : PyData} {ws : List Val} {xs : List PyData} {f : Nat} [h : DatL ws xs f] : DatL (.d x :: ws) (x :: xs) (f + 1) := ⟨by simp only [dats, h.eq], Nat.succ_le_succ h.len⟩
class Dat (ws : List Val) (xs : outParam (List PyData)) : Prop where
  eq : dats ws = some xs
instance : Dat [] [] := ⟨rfl⟩
instance {x : PyData} {ws : List Val} {xs : List PyData} [h : Dat ws xs] : Dat (.d x :: ws) (x :: xs) := ⟨by simp only [dats, h.eq]⟩
instance {xs : List PyData} : Dat (xs.map Val.d) xs := ⟨dats_map _⟩
class LenL (ws : List Val) (f : Nat) : Prop where
  len : ws.length ≤ f
instance {f : Nat} : LenL [] f := ⟨Nat.zero_le _⟩
instance {x : Val} {ws : List Val} {f : Nat} [h : LenL ws f] : LenL (x :: ws) (f + 1) := ⟨Nat.succ_le_succ h.len⟩

section
variable {W : XQ} {dn : DN} {nx bk ct : Pt} {rt : KE} {en en' : Env} {S : Sto} {k : KE} {kb : KB} {ka : KA} {ki : KI} {F G : WS} {Fa Fb Fc Fe Fi Fo Fv : WE} {T T2 : WT} {A : WA} {r r' : R2D} {i j l : Nat} {w : Val} {t : Tg} {I : WI} {f g h : Option Val → Env}
/-! statements -/
instance : Stp (wSeq F G W dn en S) (F W ⟨G W dn, dn.rt, dn.bk, dn.ct⟩ en S) := ⟨id⟩
instance : Stp (wSeq F G W ⟨nx, rt, bk, ct⟩ en S) (F W ⟨G W ⟨nx, rt, bk, ct⟩, rt, bk, ct⟩ en S) := ⟨id⟩
instance : Stp (wSkip W dn en S) (dn.nx en S) := ⟨id⟩
instance : Stp (wSkip W ⟨nx, rt, bk, ct⟩ en S) (nx en S) := ⟨id⟩
instance : Stp (wBrk W dn en S) (dn.bk en S) := ⟨id⟩
instance : Stp (wBrk W ⟨nx, rt, bk, ct⟩ en S) (bk en S) := ⟨id⟩
instance : Stp (wCnt W dn en S) (dn.ct en S) := ⟨id⟩
instance : Stp (wCnt W ⟨nx, rt, bk, ct⟩ en S) (ct en S) := ⟨id⟩
instance : Stp (wExpr Fe W dn en S) (Fe W en S fun _ S1 => dn.nx en S1) := ⟨id⟩
instance : Stp (wExpr Fe W ⟨nx, rt, bk, ct⟩ en S) (Fe W en S fun _ S1 => nx en S1) := ⟨id⟩
instance : Stp (wRet Fe W dn en S) (Fe W en S dn.rt) := ⟨id⟩
instance : Stp (wRet Fe W ⟨nx, rt, bk, ct⟩ en S) (Fe W en S rt) := ⟨id⟩
instance : Stp (wIf T F G W dn en S) (T W en S fun b S1 => if b = true then F W dn en S1 else G W dn en S1) := ⟨id⟩
instance [p : Put en i f] : Stp (wSet i Fe W dn en S) (Fe W en S fun w S1 => dn.nx (f (some w)) S1) := ⟨fun h => by
  have e : f = fun x => en.set i x := funext fun x => (p.eq x).symm
  subst e
  exact h⟩
instance [p : Put en i f] : Stp (wSet i Fe W ⟨nx, rt, bk, ct⟩ en S) (Fe W en S fun w S1 => nx (f (some w)) S1) := ⟨fun h => by
  have e : f = fun x => en.set i x := funext fun x => (p.eq x).symm
  subst e
  exact h⟩
def asgK (t : Tg) (nx : Pt) (en : Env) : KE := fun w S1 => match t.w w en with
  | some en' => nx en' S1
  | none => False
instance : Stp (wAsg t Fe W dn en S) (Fe W en S (asgK t dn.nx en)) := ⟨id⟩
instance : Stp (wAsg t Fe W ⟨nx, rt, bk, ct⟩ en S) (Fe W en S (asgK t nx en)) := ⟨id⟩
class TgW (t : Tg) (w : Val) (en : Env) (en' : outParam Env) : Prop where
  eq : t.w w en = some en'
class TgWs (ts : List Tg) (xs : List PyData) (en : Env) (en' : outParam Env) : Prop where
  eq : Tg.ws ts xs en = some en'
instance [p : Put en i f] : TgW (.nm i) w en (f (some w)) := ⟨by unfold Tg.w; rw [p.eq]⟩
instance {ts : List Tg} {xs : List PyData} [p : TgWs ts xs en en'] : TgW (.tp ts) (.d (.tuple xs)) en en' := ⟨by unfold Tg.w; exact p.eq⟩
instance : TgWs [] [] en en := ⟨by unfold Tg.ws; rfl⟩
instance {ts : List Tg} {x : PyData} {xs : List PyData} {en1 : Env} [p : TgW t (.d x) en en1] [q : TgWs ts xs en1 en'] : TgWs (t :: ts) (x :: xs) en en' := ⟨by unfold Tg.ws; rw [p.eq]; exact q.eq⟩
instance [p : TgW t w en en'] : Stp (asgK t nx en w S) (nx en' S) := ⟨fun h => by unfold asgK; rw [p.eq]; exact h⟩
theorem tg_eq [p : TgW t w en en'] : t.w w en = some en' := p.eq
instance {w1 w2 : WE} [p : Put en i f] : Stp (wPar [i, j] (wCons w1 (wCons w2 wNil)) W dn en S) (w1 W en S fun x S1 => w2 W en S1 fun y S2 => dn.nx ((f (some x)).set j (some y)) S2) := ⟨fun h => by
  have e : f = fun x => en.set i x := funext fun x => (p.eq x).symm
  subst e
  exact i_par2 h⟩
/-- two set at once -/
class Put2 (en : Env) (i j : Nat) (f : outParam (Option Val → Option Val → Env)) : Prop where
  eq : ∀ x y, (en.set i x).set j y = f x y
instance {f : Option Val → Option Val → Env} [p : Put en i g] [q : ∀ x, Put (g x) j (f x)] : Put2 en i j f := ⟨fun x y => by rw [p.eq, (q x).eq]⟩
instance {w1 w2 : WE} {f : Option Val → Option Val → Env} [p : Put2 en i j f] : Stp (wPar [i, j] (wCons w1 (wCons w2 wNil)) W ⟨nx, rt, bk, ct⟩ en S) (w1 W en S fun x S1 => w2 W en S1 fun y S2 => nx (f (some x) (some y)) S2) := ⟨fun h => by
  have e : f = fun x y => (en.set i x).set j y := funext fun x => funext fun y => (p.eq x y).symm
  subst e
  exact i_par2 h⟩
class Put3 (en : Env) (i j l : Nat) (f : outParam (Option Val → Option Val → Option Val → Env)) : Prop where
  eq : ∀ x y z, ((en.set i x).set j y).set l z = f x y z
instance {g : Option Val → Option Val → Env} {f : Option Val → Option Val → Option Val → Env} [p : Put2 en i j g] [q : ∀ x y, Put (g x y) l (f x y)] : Put3 en i j l f := ⟨fun x y z => by rw [p.eq, (q x y).eq]⟩
instance {w1 w2 w3 : WE} {f : Option Val → Option Val → Option Val → Env} [p : Put3 en i j l f] : Stp (wPar [i, j, l] (wCons w1 (wCons w2 (wCons w3 wNil))) W ⟨nx, rt, bk, ct⟩ en S) (w1 W en S fun x S1 => w2 W en S1 fun y S2 => w3 W en S2 fun z S3 => nx (f (some x) (some y) (some z)) S3) := ⟨fun h => by
  have e : f = fun x y z => ((en.set i x).set j y).set l z := funext fun x => funext fun y => funext fun z => (p.eq x y z).symm
  subst e
  exact i_par3 h⟩
instance : Stp (wStore Fo Fi Fv W dn en S) (Fv W en S fun v S1 => Fo W en S1 fun o S2 => Fi W en S2 fun i S3 => vStore o i v S3 fun S4 => dn.nx en S4) := ⟨id⟩
instance : Stp (wStore Fo Fi Fv W ⟨nx, rt, bk, ct⟩ en S) (Fv W en S fun v S1 => Fo W en S1 fun o S2 => Fi W en S2 fun i S3 => vStore o i v S3 fun S4 => nx en S4) := ⟨id⟩
instance [q : Get en i w] [p : Put en i f] : Stp (wAug i Fe r W ⟨nx, rt, bk, ct⟩ en S) (Fe W en S fun y S1 => r w y S1 fun z S2 => nx (f (some z)) S2) := ⟨fun h => by
  have e : f = fun x => en.set i x := funext fun x => (p.eq x).symm
  subst e
  exact i_aug q.eq h⟩
instance [q : Get en i w] [p : Put en i f] : Stp (wAug i Fe r W dn en S) (Fe W en S fun y S1 => r w y S1 fun z S2 => dn.nx (f (some z)) S2) := ⟨fun h => by
  have e : f = fun x => en.set i x := funext fun x => (p.eq x).symm
  subst e
  exact i_aug q.eq h⟩
instance : Stp (wFor t I F W dn en S) (I W en S fun ws ok S1 => wTurns t F ok W dn ws en S1) := ⟨id⟩
instance {A B : Prop} {d : Decidable (true = true)} : Stp (@ite Prop (true = true) d A B) A := ⟨fun h => by rw [if_pos rfl]; exact h⟩
instance {A B : Prop} {d : Decidable (false = true)} : Stp (@ite Prop (false = true) d A B) B := ⟨fun h => by rw [if_neg (fun z => Bool.noConfusion z)]; exact h⟩
/-! expressions -/
instance [p : Get en i w] : Stp (wVar i W en S k) (k w S) := ⟨i_var p.eq⟩
instance {x : PyData} : Stp (wC x W en S k) (k (.d x) S) := ⟨id⟩
instance : Stp (wOp r Fa Fb W en S k) (Fa W en S fun x S1 => Fb W en S1 fun y S2 => r x y S2 k) := ⟨id⟩
instance : Stp (wCmpT r Fa Fb W en S kb) (wOp r Fa Fb W en S (kB kb)) := ⟨id⟩
instance {b : Bool} : Stp (kB kb (.d (.bool b)) S) (kb b S) := ⟨id⟩
def chK (r : R2D) (Fc : WE) (W : XQ) (en : Env) (y : Val) (k : KE) : KE := fun z S3 => match z with
  | .d (.bool b) => if b = true then Fc W en S3 fun w S4 => r y w S4 k else k (.d (.bool false)) S3
  | _ => False
instance : Stp (wChain r r' Fa Fb Fc W en S k) (Fa W en S fun x S1 => Fb W en S1 fun y S2 => r x y S2 (chK r' Fc W en y k)) := ⟨id⟩
instance {y : Val} {b : Bool} : Stp (chK r Fc W en y k (.d (.bool b)) S) (if b = true then Fc W en S fun w S4 => r y w S4 k else k (.d (.bool false)) S) := ⟨id⟩
instance : Stp (wChainT r r' Fa Fb Fc W en S kb) (wChain r r' Fa Fb Fc W en S (kB kb)) := ⟨id⟩
instance {u : R1D} : Stp (wUn u Fa W en S k) (Fa W en S fun x S1 => u x S1 k) := ⟨id⟩
instance {u : RCD} : Stp (wCB u A W en S k) (A W en S fun ws S1 => u ws S1 k) := ⟨id⟩
def bmK (T : String) (u : RMD) (A : WA) (W : XQ) (en : Env) (k : KE) : KE := fun x S1 => okT T S1 x ∧ A W en S1 fun ws S2 => u x ws S2 k
instance {T : String} {u : RMD} : Stp (wBM T u Fa A W en S k) (Fa W en S (bmK T u A W en k)) := ⟨id⟩
instance {u : RMD} {ws : List Val} [p : StG S i (.lst ws)] : Stp (bmK "list" u A W en k (.r i) S) (A W en S fun vs S2 => u (.r i) vs S2 k) := ⟨fun h => ⟨o_lst p.eq, h⟩⟩
instance {u : RMD} {xs : List PyData} : Stp (bmK "list" u A W en k (.d (.list xs)) S) (A W en S fun vs S2 => u (.d (.list xs)) vs S2 k) := ⟨fun h => ⟨rfl, h⟩⟩
instance {u : RMD} {z : Str} : Stp (bmK "str" u A W en k (.d (.str z)) S) (A W en S fun vs S2 => u (.d (.str z)) vs S2 k) := ⟨fun h => ⟨rfl, h⟩⟩
instance : Stp (wNil W en S ka) (ka [] S) := ⟨id⟩
instance : Stp (wCons Fa A W en S ka) (Fa W en S fun x S1 => A W en S1 fun xs S2 => ka (x :: xs) S2) := ⟨id⟩
def tupK (k : KE) : KA := fun ws S1 => ws.length ≤ 1000000 ∧ match dats ws with
  | some xs => k (.d (.tuple xs)) S1
  | none => False
def lstK (k : KE) : KA := fun ws S1 => ws.length ≤ 1000000 ∧ match dats ws with
  | some xs => k (.d (.list xs)) S1
  | none => False
def lstMK (k : KE) : KA := fun ws S1 => ws.length ≤ 1000000 ∧ k (.r S1.length) (S1 ++ [.lst ws])
instance : Stp (wTup A W en S k) (A W en S (tupK k)) := ⟨id⟩
instance : Stp (wLst A W en S k) (A W en S (lstK k)) := ⟨id⟩
instance : Stp (wLstM A W en S k) (A W en S (lstMK k)) := ⟨id⟩
instance {ws : List Val} {xs : List PyData} [p : DatL ws xs 200] : Stp (tupK k ws S) (k (.d (.tuple xs)) S) := ⟨fun h => ⟨Nat.le_trans p.len (by decide), i_mtup p.eq h⟩⟩
instance {ws : List Val} {xs : List PyData} [p : DatL ws xs 200] : Stp (lstK k ws S) (k (.d (.list xs)) S) := ⟨fun h => ⟨Nat.le_trans p.len (by decide), i_mlst p.eq h⟩⟩
instance {ws : List Val} {n : Nat} {f : Ob → Sto} [p : LenL ws 200] [q : Ln S n] [s : Snc S f] : Stp (lstMK k ws S) (k (.r n) (f (.lst ws))) := ⟨fun h => ⟨Nat.le_trans p.len (by decide), by rw [q.eq, s.eq]; exact h⟩⟩
instance : Stp (wFrz Fa W en S k) (Fa W en S fun w S1 => vFrz w S1 k) := ⟨id⟩
instance : Stp (wTru Fa W en S kb) (Fa W en S fun w S1 => vTru S1 w fun b => kb b S1) := ⟨id⟩
instance : Stp (wAnd T T2 W en S kb) (T W en S fun b S1 => if b = true then T2 W en S1 kb else kb false S1) := ⟨id⟩
instance : Stp (wOr T T2 W en S kb) (T W en S fun b S1 => if b = true then kb true S1 else T2 W en S1 kb) := ⟨id⟩
instance : Stp (wNot T W en S kb) (T W en S fun b S1 => kb (!b) S1) := ⟨id⟩
def andK (Fb : WE) (W : XQ) (en : Env) (k : KE) : KE := fun x S1 => match x with
  | .d (.bool b) => if b = true then Fb W en S1 k else k (.d (.bool false)) S1
  | _ => False
def orK (Fb : WE) (W : XQ) (en : Env) (k : KE) : KE := fun x S1 => match x with
  | .d (.bool b) => if b = true then k (.d (.bool true)) S1 else Fb W en S1 k
  | _ => False
def notK (k : KE) : KE := fun x S1 => match x with
  | .d (.bool b) => k (.d (.bool (!b))) S1
  | _ => False
instance : Stp (wAndV Fa Fb W en S k) (Fa W en S (andK Fb W en k)) := ⟨id⟩
instance : Stp (wOrV Fa Fb W en S k) (Fa W en S (orK Fb W en k)) := ⟨id⟩
instance : Stp (wNotV Fa W en S k) (Fa W en S (notK k)) := ⟨id⟩
instance {b : Bool} : Stp (andK Fb W en k (.d (.bool b)) S) (if b = true then Fb W en S k else k (.d (.bool false)) S) := ⟨id⟩
instance {b : Bool} : Stp (orK Fb W en k (.d (.bool b)) S) (if b = true then k (.d (.bool true)) S else Fb W en S k) := ⟨id⟩
instance {b : Bool} : Stp (notK k (.d (.bool b)) S) (k (.d (.bool (!b))) S) := ⟨id⟩
instance : Stp (wIfE T Fa Fb W en S k) (T W en S fun b S1 => if b = true then Fa W en S1 k else Fb W en S1 k) := ⟨id⟩
instance {sp : Spec} : Stp (wCall sp A W en S k) (A W en S fun ws S1 => callF sp ws S1 k fun x S2 => W x en S2) := ⟨id⟩
instance {sp : Spec} : Stp (wCallW sp A W en S k) (A W en S fun ws S1 => callW sp ws S1 k fun x S2 => W x en S2) := ⟨id⟩
instance {u : RSD} {L U : WO} : Stp (wSl u Fa L U W en S k) (Fa W en S fun x S1 => L W en S1 fun lo S2 => U W en S2 fun hi S3 => u x lo hi S3 k) := ⟨id⟩
instance {ko : Option Int → Sto → Prop} : Stp (wNoP W en S ko) (ko none S) := ⟨id⟩
def pK (ko : Option Int → Sto → Prop) : KE := fun w S1 => match w with
  | .d (.int i) => ko (some i) S1
  | _ => False
instance {ko : Option Int → Sto → Prop} : Stp (wP Fa W en S ko) (Fa W en S (pK ko)) := ⟨id⟩
instance {ko : Option Int → Sto → Prop} {i : Int} : Stp (pK ko (.d (.int i)) S) (ko (some i) S) := ⟨id⟩
def dlK (k : KE) : KA := fun ws S1 => match dats ws with
  | some xs => k (.d (.list xs)) S1
  | none => False
instance {vs : List Nat} : Stp (wLc vs t I T Fe W en S k) (wLcA vs t I T Fe W en S (dlK k)) := ⟨id⟩
instance {ws : List Val} {xs : List PyData} [p : Dat ws xs] : Stp (dlK k ws S) (k (.d (.list xs)) S) := ⟨i_mlst p.eq⟩
def dlMK (k : KE) : KA := fun ws S1 => k (.r S1.length) (S1 ++ [.lst ws])
instance {vs : List Nat} : Stp (wLcM vs t I T Fe W en S k) (wLcA vs t I T Fe W en S (dlMK k)) := ⟨id⟩
instance {ws : List Val} {n : Nat} {f : Ob → Sto} [q : Ln S n] [s : Snc S f] : Stp (dlMK k ws S) (k (.r n) (f (.lst ws))) := ⟨fun h => by
  show k (.r S.length) (S ++ [.lst ws])
  rw [q.eq, s.eq]; exact h⟩
/-- the names of a comprehension forgotten -/
class Wip (en : Env) (vs : List Nat) (en' : outParam Env) : Prop where
  eq : wipeE en vs = en'
instance : Wip en [] en := ⟨rfl⟩
instance {v : Nat} {vs : List Nat} [p : Wip en vs en'] [q : Put en' v f] : Wip en (v :: vs) (f none) := ⟨by unfold wipeE; rw [p.eq, q.eq]⟩
instance {vs : List Nat} [q : Wip en vs en'] : Stc (wLcA vs t I T Fe W en S ka) (t.sl.all (fun i => decide (i ∈ vs)) = true) (I W en S fun ws ok S1 => wLcT t T Fe ok en' ka ws [] S1) := ⟨fun hv h => i_lcA hv (by rw [q.eq]; exact h)⟩
instance : Stp (wYes W en S kb) (kb true S) := ⟨id⟩
def rng1K (ki : KI) : KE := fun w S1 => match w with
  | .d (.int n) => n ≤ 1000000 ∧ -1000000 ≤ n ∧ ki (rgL 0 n) (fun _ => True) S1
  | _ => False
instance : Stp (wRng1 Fa W en S ki) (Fa W en S (rng1K ki)) := ⟨id⟩
instance {n : Int} : Stc (rng1K ki (.d (.int n)) S) (n ≤ 1000000 ∧ -1000000 ≤ n) (ki (rgL 0 n) (fun _ => True) S) := ⟨fun c h => ⟨c.1, c.2, h⟩⟩
def rng2K (ki : KI) (w : Val) : KE := fun z S2 => match w, z with
  | .d (.int a), .d (.int b) => (a ≤ 1000000 ∧ -1000000 ≤ a ∧ b ≤ 1000000 ∧ -1000000 ≤ b) ∧ ki (rgL a b) (fun _ => True) S2
  | _, _ => False
instance : Stp (wRng2 Fa Fb W en S ki) (Fa W en S fun w S1 => Fb W en S1 (rng2K ki w)) := ⟨id⟩
instance {a b : Int} : Stc (rng2K ki (.d (.int a)) (.d (.int b)) S) (a ≤ 1000000 ∧ -1000000 ≤ a ∧ b ≤ 1000000 ∧ -1000000 ≤ b) (ki (rgL a b) (fun _ => True) S) := ⟨fun c h => ⟨c, h⟩⟩
instance : Stp (wItSeq Fa W en S ki) (Fa W en S fun w S1 => vItSeq w S1 ki) := ⟨id⟩
/-! values -/
variable {a b : Int} {xs ys : List PyData} {d e : PyData} {x y : Val} {ws : List Val}
instance {g : Int → Int → PyData} : Stp (vI (fun _ _ => True) g (.d (.int a)) (.d (.int b)) S k) (k (.d (g a b)) S) := ⟨fun h => ⟨True.intro, h⟩⟩
instance (priority := 500) {C : Int → Int → Prop} {g : Int → Int → PyData} : Stc (vI C g (.d (.int a)) (.d (.int b)) S k) (C a b) (k (.d (g a b)) S) := ⟨fun c h => ⟨c, h⟩⟩
instance : Stp (vAdd (.d (.int a)) (.d (.int b)) S k) (k (.d (.int (a + b))) S) := ⟨id⟩
instance : Stc (vAdd (.d (.tuple xs)) (.d (.tuple ys)) S k) (xs.length + ys.length ≤ 1000000) (k (.d (.tuple (xs ++ ys))) S) := ⟨v_addT⟩
instance : Stc (vAdd (.d (.list xs)) (.d (.list ys)) S k) (xs.length + ys.length ≤ 1000000) (k (.d (.list (xs ++ ys))) S) := ⟨v_addL⟩
instance {x y : Str} : Stc (vAdd (.d (.str x)) (.d (.str y)) S k) (x.length + y.length ≤ 1000000) (k (.d (.str (x ++ y))) S) := ⟨fun c h => ⟨c, h⟩⟩
instance : Stc (vMul (.d (.int a)) (.d (.int b)) S k) (MulOk a b) (k (.d (.int (a * b))) S) := ⟨v_mul⟩
instance : Stc (vMul (.d (.list xs)) (.d (.int a)) S k) ((-1000000 ≤ a ∧ a ≤ 1000000) ∧ xs.length * a.toNat ≤ 1000000) (k (.d (.list (List.replicate a.toNat xs).flatten)) S) := ⟨fun c h => v_mulLs c.1 c.2 h⟩
instance : Stp (vNeg (.d (.int a)) S k) (k (.d (.int (-a))) S) := ⟨id⟩
instance : Stp (vEq (.d (.int a)) (.d (.int b)) S k) (k (.d (.bool (decide (a = b)))) S) := ⟨v_eqI⟩
instance : Stp (vNe (.d (.int a)) (.d (.int b)) S k) (k (.d (.bool (!decide (a = b)))) S) := ⟨v_neI⟩
instance {neg : Bool} : Stp (vIsN neg (.d d) (.d .none) S k) (k (.d (.bool (isNon d != neg))) S) := ⟨v_isNon⟩
instance {neg p q : Bool} : Stp (vIsN neg (.d (.bool p)) (.d (.bool q)) S k) (k (.d (.bool (decide (p = q) != neg))) S) := ⟨v_isBl⟩
class Itm {α : Type} (xs : List α) (i : Int) (x : outParam α) : Prop where
  eq : itm xs i = some x
instance {α : Type} {a : α} {l : List α} : Itm (a :: l) 0 a := ⟨rfl⟩
instance {α : Type} {a b : α} {l : List α} : Itm (a :: b :: l) 1 b := ⟨rfl⟩
instance {α : Type} {a b c : α} {l : List α} : Itm (a :: b :: c :: l) 2 c := ⟨rfl⟩
instance {α : Type} {a b c d : α} {l : List α} : Itm (a :: b :: c :: d :: l) 3 d := ⟨rfl⟩
instance {α : Type} {a b c d e : α} {l : List α} : Itm (a :: b :: c :: d :: e :: l) 4 e := ⟨rfl⟩
instance {α : Type} {a b c d e f : α} {l : List α} : Itm (a :: b :: c :: d :: e :: f :: l) 5 f := ⟨rfl⟩
instance {α : Type} {a b c d e f g : α} {l : List α} : Itm (a :: b :: c :: d :: e :: f :: g :: l) 6 g := ⟨rfl⟩
instance [p : Itm xs a d] : Stp (vIx (.d (.tuple xs)) (.d (.int a)) S k) (k (.d d) S) := ⟨v_ixT p.eq⟩
instance [p : Itm xs a d] : Stp (vIx (.d (.list xs)) (.d (.int a)) S k) (k (.d d) S) := ⟨v_ixL p.eq⟩
instance [p : StG S i (.lst ws)] [q : Itm ws a w] : Stp (vIx (.r i) (.d (.int a)) S k) (k w S) := ⟨v_ixM p.eq q.eq⟩
instance {lo hi : Option Int} : Stp (vSl (.d (.tuple xs)) lo hi S k) (k (.d (.tuple (cut xs lo hi))) S) := ⟨v_slT⟩
instance {lo hi : Option Int} : Stp (vSl (.d (.list xs)) lo hi S k) (k (.d (.list (cut xs lo hi))) S) := ⟨v_slL⟩
instance : Stp (vLen [.d (.tuple xs)] S k) (k (.d (.int xs.length)) S) := ⟨v_lenT⟩
instance : Stp (vLen [.d (.list xs)] S k) (k (.d (.int xs.length)) S) := ⟨v_lenL⟩
instance : Stp (vLen [.s xs] S k) (k (.d (.int xs.length)) S) := ⟨v_lenS⟩
instance {z : Str} : Stc (vLen [.d (.str z)] S k) (z.length ≤ 1000000) (k (.d (.int z.length)) S) := ⟨fun c h => ⟨c, h⟩⟩
instance [p : StG S i (.lst ws)] : Stp (vLen [.r i] S k) (k (.d (.int ws.length)) S) := ⟨v_lenM p.eq⟩
instance : Stp (vMax2 [.d (.int a), .d (.int b)] S k) (k (.d (.int (if b > a then b else a))) S) := ⟨id⟩
instance : Stp (vMin2 [.d (.int a), .d (.int b)] S k) (k (.d (.int (if b < a then b else a))) S) := ⟨id⟩
instance : Stp (vInt [.d (.int a)] S k) (k (.d (.int a)) S) := ⟨id⟩
instance {b : Bool} : Stp (vInt [.d (.bool b)] S k) (k (.d (.int (if b then 1 else 0))) S) := ⟨id⟩
instance : Stp (vTuple [.d (.tuple xs)] S k) (k (.d (.tuple xs)) S) := ⟨id⟩
instance : Stp (vTuple [.d (.list xs)] S k) (k (.d (.tuple xs)) S) := ⟨v_tupL⟩
instance [p : StG S i (.lst ws)] [q : Dat ws xs] : Stp (vTuple [.r i] S k) (k (.d (.tuple xs)) S) := ⟨v_tupM p.eq q.eq⟩
instance : Stp (vList [.d (.tuple xs)] S k) (k (.d (.list xs)) S) := ⟨v_listT⟩
instance : Stp (vList [.d (.list xs)] S k) (k (.d (.list xs)) S) := ⟨v_listL⟩
instance {b : Bool} : Stp (vRepr [.d (.bool b)] S k) (k (.d (.str (if b then "True" else "False"))) S) := ⟨id⟩
instance : Stp (vRepr [.d .none] S k) (k (.d (.str "None")) S) := ⟨id⟩
instance {n : String} : Stp (vIsi n (.d d) S k) (k (.d (.bool (isT n d))) S) := ⟨id⟩
instance {f : Ob → Sto} [p : StG S i (.lst ws)] [q : StP S i f] : Stc (vAppend (.r i) [w] S k) (ws.length < 1000000) (k (.d .none) (f (.lst (ws ++ [w])))) := ⟨fun c h => v_append p.eq c (by rw [q.eq]; exact h)⟩
instance {f : Ob → Sto} [p : StG S i (.lst (ws ++ [w]))] [q : StP S i f] : Stp (vPop (.r i) [] S k) (k w (f (.lst ws))) := ⟨fun h => v_pop (w := w) p.eq (by simp) (by rw [q.eq, List.dropLast_concat]; exact h)⟩
instance {f : Ob → Sto} [p : StG S i (.lst ws)] [q : Dat ws xs] [s : StP S i f] : Stp (vFrz (.r i) S k) (k (.d (.list xs)) (f .dead)) := ⟨fun h => v_frzM p.eq q.eq (by rw [s.eq]; exact h)⟩
instance : Stp (vFrz (.d d) S k) (k (.d d) S) := ⟨id⟩
instance : Stp (vItSeq (.d (.tuple xs)) S ki) (ki (xs.map Val.d) (fun _ => True) S) := ⟨id⟩
instance : Stp (vItSeq (.d (.list xs)) S ki) (ki (xs.map Val.d) (fun _ => True) S) := ⟨id⟩
instance : Stp (vItSeq (.s xs) S ki) (ki (xs.map Val.d) (fun _ => True) S) := ⟨id⟩
instance {z : Str} : Stp (vItSeq (.d (.str z)) S ki) (ki (z.cps.toList.map signD) (fun _ => True) S) := ⟨id⟩
instance [p : StG S i (.lst ws)] : Stp (vItSeq (.r i) S ki) (ki ws (fun S => S[i]? = some (.lst ws)) S) := ⟨v_itM p.eq⟩
variable {kp : Bool → Prop}
instance {b : Bool} : Stp (vTru S (.d (.bool b)) kp) (kp b) := ⟨id⟩
instance : Stp (vTru S (.d .none) kp) (kp false) := ⟨id⟩
instance : Stp (vTru S (.d (.int a)) kp) (kp (a != 0)) := ⟨id⟩
instance : Stp (vTru S (.d (.tuple xs)) kp) (kp (!xs.isEmpty)) := ⟨id⟩
instance : Stp (vTru S (.d (.list xs)) kp) (kp (!xs.isEmpty)) := ⟨id⟩
instance : Stp (vTru S (.s xs) kp) (kp (!xs.isEmpty)) := ⟨id⟩
instance [p : StG S i (.lst ws)] : Stp (vTru S (.r i) kp) (kp (!ws.isEmpty)) := ⟨v_truM p.eq⟩
class SetI (ws : List Val) (a : Int) (w : Val) (us : outParam (List Val)) : Prop where
  eq : ∃ n : Nat, a = n ∧ n < ws.length ∧ ws.set n w = us
instance {u : Val} {l : List Val} : SetI (u :: l) 0 w (w :: l) := ⟨0, rfl, by simp, rfl⟩
instance {u v : Val} {l : List Val} : SetI (u :: v :: l) 1 w (u :: w :: l) := ⟨1, rfl, by simp, rfl⟩
instance {us : List Val} {f : Ob → Sto} {ks : Sto → Prop} [p : StG S i (.lst ws)] [q : SetI ws a w us] [s : StP S i f] : Stp (vStore (.r i) (.d (.int a)) w S ks) (ks (f (.lst us))) := ⟨fun h => by
  obtain ⟨n, h1, h2, h3⟩ := q.eq
  exact v_stM p.eq h1 h2 (by rw [s.eq, h3]; exact h)⟩
end
end DL

set_option Elab.async false
set_option linter.all false
set_option maxRecDepth 100000
set_option maxHeartbeats 4000000
/-! DL15: Refused.__init__: super().__init__("refused"); self.what = what. -/
namespace DL
open PySem PySem.Spec PyProof.Rows L2

/-- what the text's written part says of the def __init__ -/
structure RefF (P : Program) (w : World) (K : PySem.W.Frag) (mg : Str → Option Value) (R fI : Addr) (fd : FuncData) : Prop where
  ex : ∃ (params : Arguments) (scope : Scope) (oc kV doc pm ct cl ccl : Value) (od an cld cdd : Option Addr) (osl csl ccs : Array (Option Value)) (cc cda : Addr) (vs : Array Value) (file : Str) (tf : Tok) (ar : Arg) (cdR : ClassData)
      (p0 p1 p2 p3 p4 p5 p6 p7 p8 p9 : Pos) (j : Nat),
    fd = PySem.W.fnX "__init__" "Refused.__init__" params [.Expr (.Call (.Attribute (.Call (.Name "super" p0) [] [] p1) "__init__" p2) [.Constant (.str "refused") j p3] [] p4) p5, .Assign [.Attribute (.Name "self" p6) "what" p7] (.Name "what" p8) p9] scope [("__class__", cc)] .none kV doc pm an (.ref cda) ct ∧
    K.lookup fI = some ⟨oc, od, .func fd, osl⟩ ∧ PySem.W.codeIn K (.ref cda) "Refused.__init__" = true ∧ K.lookup cc = some ⟨cl, cld, .cell (some (.ref R)), csl⟩ ∧ K.lookup cda = some ⟨ccl, cdd, .fields vs, ccs⟩ ∧
    vs[2]? = some (.str file tf) ∧ ((P.main.file : Str) == file) = true ∧ NdefX.NScope ["self", "what", "__class__"] ["self", "what"] ["__class__"] scope ∧ scope.names.lookup ("super" : Str) = some .globalImplicit ∧
    mg "super" = none ∧ (P.main.scope.names.lookup ("super" : Str)).isSome = false ∧ PySem.W.clsIn K R = some cdR ∧ PySem.W.nsIn K cStatics "thirdparty.any" = some none ∧
    (params.posonlyargs ++ params.args).head? = some ar ∧ ar.arg = "self" ∧ (p2.endLine == p4.line) = true
section
variable {K : PySem.W.Frag} {mg : Str → Option Value} {R fI C C' : Addr} {x y : Str}
theorem ve_of {bm : List Value} {x : Str} (h : (bm = .ref R :: PySem.HandSPX.veTail ∧ C ≠ R) ∨ (x = "Refused" ∧ C = R ∧ bm = PySem.HandSPX.veTail)) : PySem.HandSPX.refsVE bm = true := by
  rcases h with ⟨rfl, _⟩ | ⟨_, _, rfl⟩
  · unfold PySem.HandSPX.refsVE
    decide +kernel
  · decide +kernel
theorem XC.mro (h : XC K mg R fI x C) : ∃ cd, PySem.W.clsIn K C = some cd ∧ cd.name = x ∧ cd.hasDict = true ∧ ((cd.mro = .ref C :: .ref R :: PySem.HandSPX.veTail ∧ C ≠ R) ∨ (x = "Refused" ∧ C = R ∧ cd.mro = .ref C :: PySem.HandSPX.veTail)) := by
  obtain ⟨q, N, bs, bm, sn, sub, ab, col, dd, k0, k1, k2, k3, k5, e, hb⟩ := h.cls
  refine ⟨_, by unfold PySem.W.clsIn; rw [e], rfl, rfl, ?_⟩
  rcases hb with ⟨hb, hn⟩ | ⟨h1, h2, h3⟩
  · exact .inl ⟨by rw [hb], hn⟩
  · exact .inr ⟨h1, h2, by rw [h3]⟩
theorem XC.sub (h : XC K mg R fI x C) (v : Value) : PySem.W.subIn K (.ref C) v = some (v == .ref C || v == .ref R || PySem.HandSPX.veTail.contains v) := by
  obtain ⟨cd, h1, _, _, h3⟩ := h.mro
  show PySem.W.mroIn K C v = _
  unfold PySem.W.mroIn
  rw [h1, Option.bind_some]
  rcases h3 with ⟨h3, _⟩ | ⟨_, hC, h3⟩
  · rw [h3]
    simp only [List.isEmpty_cons, Bool.false_eq_true, if_false, List.contains_cons, Bool.or_assoc]
  · rw [h3]
    simp only [List.isEmpty_cons, Bool.false_eq_true, if_false, List.contains_cons, hC]
    cases (v == Value.ref R) <;> simp
theorem XC.exc (h : XC K mg R fI x C) : PySem.W.subIn K (.ref C) (.type "BaseException") = some true := by
  rw [h.sub]
  have : PySem.HandSPX.veTail.contains (.type "BaseException") = true := by decide +kernel
  rw [this, Bool.or_true]
theorem XC.typ (h : XC K mg R fI x C) : PySem.W.typeIn K (.ref C) = some (.type "type") := by
  obtain ⟨q, N, bs, bm, sn, sub, ab, col, dd, k0, k1, k2, k3, k5, e, hb⟩ := h.cls
  show (K.lookup C).map (·.cls) = _
  rw [e]
  rfl
theorem XC.oex (h : XC K mg R fI x C) : OexC K C := by
  obtain ⟨q, N, bs, bm, sn, sub, ab, col, dd, k0, k1, k2, k3, k5, e, hb⟩ := h.cls
  exact ⟨⟨x, q, N, bs, bm, sn, sub, ab, col, dd, k0, k1, k2, k3, k5, e, ve_of hb⟩, h.sa, h.exc, h.typ, h.kC⟩
theorem XC.xf (h : XC K mg R fI x C) : XfC K C := by
  obtain ⟨cd, h1, _, h2, _⟩ := h.mro
  refine ⟨h.ga, h.gg, h.exc, ?_⟩
  unfold PySem.W.hasDictIn
  rw [h1]
  simp [h2]
theorem XC.inj (h : XC K mg R fI x C) (h' : XC K mg R fI y C) : x = y := by
  obtain ⟨cd, h1, h2, _⟩ := h.mro
  obtain ⟨cd', h1', h2', _⟩ := h'.mro
  rw [h1] at h1'
  cases h1'
  rw [← h2, h2']
/-- is an error of the name x caught by a clause that names y? -/
def caught (x y : Str) : Bool := decide (x = y) || decide (y = "Refused")
theorem XC.exm (hR : XC K mg R fI "Refused" R) (h : XC K mg R fI x C) (h' : XC K mg R fI y C') : PySem.W.exmOne K (.ref C) (.ref C') = some (caught x y) := by
  have e1 : (PySem.W.subIn K (.ref C') (.type "BaseException") == some true) = true := by rw [h'.exc]; rfl
  have e2 : ((PySem.W.clsIn K C').isSome && PySem.W.typeIn K (.ref C') == some (.type "type")) = true := by
    obtain ⟨cd, h1, _⟩ := h'.mro
    rw [h1, h'.typ]
    rfl
  unfold PySem.W.exmOne PySem.W.kitCls
  rw [if_pos e1]
  simp only [e2, if_true]
  rw [h.sub]
  have e3 : PySem.HandSPX.veTail.contains (Value.ref C') = false := by
    simp [PySem.HandSPX.veTail]
  rw [e3, Bool.or_false]
  congr 1
  unfold caught
  have q1 : (Value.ref C' == Value.ref C) = decide (x = y) := by
    by_cases e : x = y
    · subst e
      have := h.mgx.symm.trans h'.mgx
      cases this
      simp
    · rw [decide_eq_false e]
      have : C' ≠ C := fun z => e (by subst z; exact h.inj h')
      simp [this]
  have q2 : (Value.ref C' == Value.ref R) = decide (y = "Refused") := by
    by_cases e : y = "Refused"
    · subst e
      have := hR.mgx.symm.trans h'.mgx
      cases this
      simp
    · rw [decide_eq_false e]
      have : C' ≠ R := fun z => e (by subst z; exact h'.inj hR)
      simp [this]
  rw [q1, q2]
theorem XC.along (h : XC K mg R fI x C) {cd : ClassData} (e : PySem.W.clsIn K C = some cd) : PySem.W.alongIn K "__init__" ((cd.mro.dropWhile (· != .ref R)).drop 1) = some (some (.builtin "ValueError.__init__")) := by
  obtain ⟨cd', h1, _, _, h3⟩ := h.mro
  rw [e] at h1
  cases h1
  have q : ((cd.mro.dropWhile (· != .ref R)).drop 1) = PySem.HandSPX.veTail := by
    rcases h3 with ⟨h3, hn⟩ | ⟨_, hC, h3⟩
    · rw [h3]
      simp [List.dropWhile_cons, hn]
    · rw [h3, hC]
      simp [List.dropWhile_cons]
  rw [q]
  kernel_rfl
section
variable {X : Cx} {pins : List (Addr × Obj)} {σ : L2.St} {H : Hp} {s : Shared} {A : Around} {E : Value → Shared → Prop} {a u : Addr}
/-- ValueError.__init__, bound to the error, called: nothing of it is told -/
theorem call_mw {us : List Value} {Q : Value → Shared → Prop} (T : OexC X.K C) (I : Inv X pins σ H s) (e : H a = some (exo a C none)) (hu : s.heap.get? u = some (PySem.W.kxs_mw "ValueError.__init__" a)) (hl : us.length ≤ sizeLine) (h : ∀ s', Inv X pins σ H s' → Q .none s') :
    wpAny (model X.prog X.w) A (call (.ref u) us) Q E s := by
  obtain ⟨nm, q, N, bs, bm, sn, sub, ab, col, dd, k0, k1, k2, k3, k5, hC, hbm⟩ := T.cls
  have hC' := I.kIn _ _ hC
  obtain ⟨t1, ho⟩ := exo_at I.hok e
  have eu : upd H a (exo a C none) = H := funext fun b => by
    by_cases hb : b = a
    · rw [hb, upd_same, e]
    · rw [upd_ne hb]
  have fin : ∀ h' : Heap, (∀ b o, b ≠ a → s.heap.get? b = some o → h'.get? b = some o) → (∃ t2 : Addr, h'.get? a = some ({ cls := .ref C, dict := none, data := .fields #[.ref t2, .none, .none, .none, .bool false, .none] } : Obj)) → Q .none { s with heap := h' } := fun h' k ⟨t2, hx⟩ => by
    have J := I.write (t' := s.toks) (x := a) (e := a) (o := exo a C none) (by rw [e]; exact True.intro) (.inl rfl) k ⟨_, hx⟩ (exo_ok hx)
    rw [eu] at J
    exact h _ J
  obtain ⟨hp, g, d, tk, os⟩ := s
  refine wpAny_call (codeAny_of_tree ?_)
  show wpAny _ A.in1 (callAny (.ref u) ⟨us, []⟩) _ _ _
  unfold callAny
  refine wpAny_bind (wpAny_load hu ?_)
  dsimp only [PySem.W.kxs_mw]
  simp only [show (Value.type "method-wrapper" == Value.type "method" || Value.type "method-wrapper" == Value.type "builtin_function_or_method" || Value.type "method-wrapper" == Value.type "method-wrapper") = true by decide, if_true]
  refine PySem.W.KFB.if_so (by decide) ?_
  refine wpAny_bind (PySem.W.check_bound_init F.excBase_ValueError.toExcCallFacts hC' ho rfl ?_)
  refine wpAny_bind (wpAny_pure (wpAny_pure ?_))
  refine ⟨plainId_quiet F.excBase_ValueError.init.plain _, codeAny_builtin F.excBase_ValueError.initEntry ?_⟩
  exact PySem.W.exc_init_tree (cls := .ref C) (t0 := t1) (dv := none) (c2 := .none) (c3 := .none) (b4 := .bool false) ho hl fun h' k1 k2 _ => fin h' k1 ⟨_, k2⟩
end
end
theorem sup_eval {p0 p1 p2 p3 p4 : Pos} {j : Nat} {env : PySem.Env} (h : (p2.endLine == p4.line) = true) : eval (.Call (.Attribute (.Call (.Name "super" p0) [] [] p1) "__init__" p2) [.Constant (.str "refused") j p3] [] p4) env = (do
    let ov ← attributeBase (.Call (.Name "super" p0) [] [] p1) "__init__" env (eval (.Call (.Name "super" p0) [] [] p1) env)
    standAt p2.atName
    let (f, first) ← holding [ov] (getMethod ov "__init__" (do return (← importBound (.Call (.Name "super" p0) [] [] p1) env).getD true))
    callWith p4 f first (backTo p4 (starEach [.Constant (.str "refused") j p3] env)) []) := by
  have few : methodCallForm ([Expr.Constant (.str "refused") j p3].length + ([] : List Keyword).length) (backTo p4 (starEach [.Constant (.str "refused") j p3] env)) (backToKw p4 (keywordEach [] env)) = true := by rfl
  show (do
    let ov ← attributeBase (.Call (.Name "super" p0) [] [] p1) "__init__" env (eval (.Call (.Name "super" p0) [] [] p1) env)
    standAt p2.atName
    methodCall (.Call (.Name "super" p0) [] [] p1) "__init__" p2 p4 env ov ([Expr.Constant (.str "refused") j p3].length + ([] : List Keyword).length) (backTo p4 (starEach [.Constant (.str "refused") j p3] env)) (backToKw p4 (keywordEach [] env))) = _
  unfold methodCall methodCallPos
  rw [few, h]
  rfl
/-- Refused.__init__'s promise -/
def spI (K : PySem.W.Frag) (mg : Str → Option Value) (R fI : Addr) : L2.Sp := fun vs H Q _ => ∃ (a C : Addr) (v : V) (x : Str), vs = [.ref a, v] ∧ XC K mg R fI x C ∧ H a = some (exo a C none) ∧
  ∀ dx, H dx = none → dx ≠ a → Q .non (upd (upd H dx (exd dx [("what", v)])) a (exo a C (some dx)))
section
variable {P : Program} {w : World} {K : PySem.W.Frag} {mg : Str → Option Value} {base : Heap} {R fI : Addr} {fd : FuncData}
theorem init_ok {k : Nat} (F : RefF P w K mg R fI fd) : FnOk P w K mg base (L2.CX P w) (k + 1) fI fd ["self", "what"] (spI K mg R fI) := by
  obtain ⟨params, scope, oc, kV, doc, pm, ct, cl, ccl, od, an, cld, cdd, osl, csl, ccs, cc, cda, vsC, file, tf, ar, cdR, p0, p1, p2, p3, p4, p5, p6, p7, p8, p9, j, rfl, lk, hcd, lcc, lcd, hvs, hfile, S, hks, hsup, htop, hR, hnop, hpar, har, hpos⟩ := F.ex
  refine ⟨fun vs H Q E h => ?_, fun A outer s H args us vs Q E hr e0 hb r hsp => ?_⟩
  · obtain ⟨a, C, v, x, rfl, _⟩ := h
    rfl
  obtain ⟨a, C, v, x, rfl, hC, ha, hq⟩ := hsp
  cases r with
  | @cons _ ua _ ur ra rr =>
  cases rr with
  | @cons _ u _ ur2 ru rr2 =>
  cases rr2
  obtain rfl : ua = Value.ref a := ra
  have KX : K.In s.heap := e0.mod.kin.keeps fun b o e => (e0.bs b o e).1
  have lim : s.heap.NoLimit := e0.mod.nolimit.keeps fun b o e => (e0.bs b o e).1
  let NFI : NdefX.NF := ⟨"__init__", "Refused.__init__", params, [.Expr (.Call (.Attribute (.Call (.Name "super" p0) [] [] p1) "__init__" p2) [.Constant (.str "refused") j p3] [] p4) p5, .Assign [.Attribute (.Name "self" p6) "what" p7] (.Name "what" p8) p9], scope, [("__class__", cc)], cda⟩
  have hkX : ∀ y ∈ (["self", "what"] : List Str).zip [Value.ref a, u], scope.names.lookup y.1 = some .local := fun ⟨n, _⟩ hy => S.par n (List.of_mem_zip hy).1
  refine PySem.ks_codeAny_call_defAt (fd := PySem.W.fnX "__init__" "Refused.__init__" params NFI.body scope [("__class__", cc)] .none kV doc pm an (.ref cda) ct) (body := NFI.body) (binds := (["self", "what"] : List Str).zip [Value.ref a, u]) hr.depth (KX _ _ lk) rfl lim (PySem.W.codeRec_of KX hcd) rfl hb S.nocell hkX (fun h₀ hns hk => ?_) S.co S.gen S.kind
  have hbase : ∀ b o, K.lookup b = some o → H b = none := fun b o e => (e0.bs b o (e0.mod.kin b o e)).2
  have Cc : NdefX.CellsAt NFI.cl ["__class__"] [some (V.ref R)] s.heap H := by
    refine ⟨rfl, fun y c e => ?_, fun y z c e1 e2 => ?_, fun i y e => ?_⟩
    · have : c = cc := by
        simp only [NFI, List.lookup] at e
        split at e <;> first | exact (Option.some.inj e).symm | cases e
      subst this
      exact ⟨hbase _ _ lcc, _, _, KX _ _ lcc, rfl⟩
    · simp only [NFI, List.lookup] at e1 e2
      have q1 : y = "__class__" := by
        split at e1
        · rename_i hh
          simpa using hh
        · cases e1
      have q2 : z = "__class__" := by
        split at e2
        · rename_i hh
          simpa using hh
        · cases e2
      rw [q1, q2]
    · have q : y = "__class__" := by
        cases i with
        | zero => exact (Option.some.inj e).symm
        | succ i => simp at e
      subst q
      refine ⟨cc, rfl, fun v' e' => ?_⟩
      have : v' = V.ref R := by
        cases i with
        | zero => simpa using e'.symm
        | succ i => simp at e
      subst this
      exact ⟨.ref R, rfl, _, KX _ _ lcc, rfl⟩
  have I : Inv (NdefX.ncx (L2.CX P w) P w K mg base ["self", "what", "__class__"] NFI fI A outer s H E) [] (NdefX.startF ["self", "what", "__class__"] [V.ref a, v] [some (V.ref R)]) H { s with heap := h₀, toks := s.toks + ((["self", "what"] : List Str).zip [Value.ref a, u]).length } :=
    NdefX.inv_startN S hr.hd e0 rfl (.cons rfl (.cons ru .nil)) Cc hns hk
  let X := NdefX.ncx (L2.CX P w) P w K mg base ["self", "what", "__class__"] NFI fI A outer s H E
  have I : Inv X [] [some (V.ref a), some v, some (V.ref R)] H { s with heap := h₀, toks := s.toks + ((["self", "what"] : List Str).zip [Value.ref a, u]).length } := I
  have KX1 : K.In h₀ := I.kIn
  show PySem.wpAt (model P w) X.A (.func NFI.body X.env) (execs NFI.body X.env) _ X.xe _
  refine PySem.ks_wpAt_execs_cons (PySem.ks_wpAt_Expr_any (PySem.ks_wpAt_MethodCall ?_ (sup_eval hpos)) (by have z : X.env.scope.kind = .function := S.kind; unfold interactive; simp [z]) (by rfl))
  refine PySem.ks_wpAt_super_base (env := X.env) (fd := PySem.W.fnX "__init__" "Refused.__init__" params NFI.body scope [("__class__", cc)] .none kV doc pm an (.ref cda) ct) hks (S.frk _ (by simp)) rfl rfl (KX1 _ _ lk) rfl hpar rfl (KX1 _ _ lcd) rfl hvs hfile htop ?_
  obtain ⟨mb, hb1, hb2⟩ := I.ok.mod.blt
  refine PySem.W.ks_loadName_global (env := X.env) S.kind hks (PySem.Calls.loadGlobal_builtin (env := X.env) (I.ok.mod.glob.keeps I.bk) hsup (hb1.keeps I.bk) ((hb2 "super" (by decide)).trans (by rfl)) ⟨rfl, ?_⟩)
  refine wpAny_loadName_free (env := X.env) S.kind (S.frk _ (by simp)) rfl ⟨_, KX1 _ _ lcc, rfl⟩ ?_
  rw [har]
  refine wpAny_loadName_local (env := X.env) S.kind (S.par _ (by simp)) hns (v := .ref a) rfl ?_
  obtain ⟨oD, hD1, hD2⟩ : ∃ oD, h₀.get? R = some oD ∧ oD.data = .cls cdR := by
    unfold PySem.W.clsIn at hR
    split at hR
    · rename_i ho
      cases hR
      exact ⟨_, KX1 _ _ ho, rfl⟩
    · cases hR
  refine PySem.ks_wpAny_isType_cls hD1 hD2 ⟨rfl, ?_⟩
  obtain ⟨cdC, hC1, _, _, hC3⟩ := hC.mro
  obtain ⟨t1, hx⟩ := exo_at I.hok ha
  have hmroR : PySem.W.mroIn K C (.ref R) = some true := by
    have := hC.sub (.ref R)
    rw [show (Value.ref R == Value.ref R) = true by simp, Bool.or_true, Bool.true_or] at this
    exact this
  refine PySem.ks_wpAny_call_super hD1 hD2 hx rfl (fun c z => by cases z) (PySem.W.looks_mroIn KX1 hmroR) (fun h2 e2 k2 => ?_)
  have I2 : Inv X [] [some (V.ref a), some v, some (V.ref R)] H { s with heap := h2, toks := s.toks + ((["self", "what"] : List Str).zip [Value.ref a, u]).length } := I.un (Un.kept k2) (I.hok.kept k2)
  have KX2 : K.In h2 := I2.kIn
  obtain ⟨t2, hx2⟩ := exo_at I2.hok ha
  have IA : PySem.W.InstAt h2 a ({ cls := .ref C, dict := none, data := .fields #[.ref t2, .none, .none, .none, .bool false, .none] } : Obj) C none := ⟨hx2, rfl, rfl, trivial⟩
  have hI2 : PySem.W.Looks (model P w) h2 (isInstance (.ref a) (.type "ValueError")) true := IA.type.andThen (PySem.W.looks_subIn KX2 (by rw [hC.sub, show PySem.HandSPX.veTail.contains (.type "ValueError") = true by decide +kernel, Bool.or_true]))
  refine PySem.W.kxs_getMethod PySem.W.kxs_ValueError e2 (PySem.W.looks_opaque KX2 hnop) (l₀ := cdC.mro) (fun A Q E s k q => wpAny_bind ((PySem.W.looks_clsIn KX2 hC1) A _ E s k (wpAny_pure q))) rfl KX2 (hC.along hC1) hI2 (PySem.W.ks_ne KX2 IA hC1) rfl ?_
  have k3 : ∀ b o, h2.get? b = some o → (h2.push (PySem.W.kxs_mw "ValueError.__init__" a)).get? b = some o := fun b o e => Heap.get?_push_of_some _ e
  have I3 : Inv X [(h2.objs.size, PySem.W.kxs_mw "ValueError.__init__" a)] [some (V.ref a), some v, some (V.ref R)] H { s with heap := h2.push (PySem.W.kxs_mw "ValueError.__init__" a), toks := s.toks + ((["self", "what"] : List Str).zip [Value.ref a, u]).length + 1 } :=
    (I2.un (t' := s.toks + ((["self", "what"] : List Str).zip [Value.ref a, u]).length + 1) (Un.kept k3) (I2.hok.kept k3)).pins_of fun p hp => by
      rw [List.mem_singleton] at hp
      subst hp
      exact ⟨Heap.get?_push_at rfl rfl, I2.hok.fresh (Nat.le_refl _), fun z => absurd I2.lt (by rw [← (show h2.objs.size = X.env.locals from z)]; exact Nat.lt_irrefl _), I2.nofs (Nat.le_refl _), fun v z => by cases z⟩
  refine PySem.W.kxs_callWith (i := "ValueError.__init__") (x := a) (by rfl) (PySem.Calls.evalArgs_plain ?_)
  refine thn ((pa_cons pe_str pa_nil : PA X [.Constant (.str "refused") j p3] _).run p4 [(h2.objs.size, PySem.W.kxs_mw "ValueError.__init__" a)] _ _ H (fun vs H' => vs = [.str "refused"] ∧ H' = H) I3 ⟨rfl, rfl⟩) (fun us s4 ⟨vs, H4, I4, r4, e4, eH⟩ => ?_)
  subst e4 eH
  refine ⟨(I4.pin (h2.objs.size, PySem.W.kxs_mw "ValueError.__init__" a) (List.mem_append_right _ List.mem_cons_self)).1, ?_⟩
  refine call_mw hC.oex I4 ha (I4.pin (h2.objs.size, PySem.W.kxs_mw "ValueError.__init__" a) (List.mem_append_right _ List.mem_cons_self)).1 (by
    have := r4.length
    rw [List.nil_append, ← this, sizeLine_eq]
    decide) fun s5 I5 => ?_
  show PySem.wpAt (model P w) X.A (.func NFI.body X.env) (execs [.Assign [.Attribute (.Name "self" p6) "what" p7] (.Name "what" p8) p9] X.env) _ X.xe s5
  refine PySem.wpAt_of_wpAny ?_
  refine thn ((pss_one (ps_ost (pe_var (i := 0) rfl (.inl (S.par _ (by simp)))) (pe_var (i := 1) rfl (.inl (S.par _ (by simp))))) : PSs X [.Assign [.Attribute (.Name "self" p6) "what" p7] (.Name "what" p8) p9] _).run _ s5 _ H4 { nx := fun _ H' => Q .non H', rt := Q } I5 ?_) fun fl s6 hs => ?_
  · exact ⟨v, rfl, .ref a, rfl, a, C, rfl, hC.oex, hC.wh, .inl ⟨ha, fun dx n ne => hq dx n ne⟩⟩
  · have fin : ∀ {pn : List (Addr × Obj)} {σ' : L2.St} {H' : Hp} {v' : V} {u' : Value}, Inv X pn σ' H' s6 → L2.RelV v' u' → Q v' H' → CE outer P w H4 s Q u' s6 := fun {pn σ' H' v' u'} J rv q => ⟨v', H', J.os, J.bare, J.base, J.hok, rv, q⟩
    cases fl with
    | next =>
      obtain ⟨_, _, J, q⟩ := hs
      exact fin (v' := V.non) (u' := Value.none) J rfl q
    | ret z =>
      obtain ⟨_, _, _, J, rv, q⟩ := hs
      exact fin J rv q
    | brk =>
      obtain ⟨_, _, _, q⟩ := hs
      exact q.elim
    | cont =>
      obtain ⟨_, _, _, q⟩ := hs
      exact q.elim
end
end DL

set_option Elab.async false
set_option linter.all false
set_option maxRecDepth 100000
set_option maxHeartbeats 4000000
/-! DL16: raise, try. -/
namespace DL
open PySem PySem.Spec PyProof.Rows L2

/-- the errors: their classes stand, and are made by Refused's __init__ -/
structure Errs (P : Program) (w : World) (K : PySem.W.Frag) (mg : Str → Option Value) (ns : List Str) : Prop where
  ex : ∃ (R fI : Addr) (fd : FuncData), RefF P w K mg R fI fd ∧ Binds K fd ["self", "what"] [] ∧ PySem.W.typeIn K (.ref fI) = some (.type "function") ∧ XC K mg R fI "Refused" R ∧ ∀ x ∈ ns, ∃ C, XC K mg R fI x C
def wRaise (x : Str) (Fe : WE) : WS := fun W dn en S => Fe W en S fun v S1 => match v with
  | .d y => W ⟨x, y⟩ en S1
  | _ => False
section
variable {X : Cx} {k : Nat} {ns : List Str} {x : Str} {e : Expr} {Fe : WE} {p pos pos2 : Pos}
theorem ds_raise (E : Errs X.prog X.w X.K X.mg ns) (hx : x ∈ ns) (hr : Room (k + 2) X.A) (hc : X.calm = true) (he : DE X e Fe) (hg : Gl X x := by rfl) (hdb : (x == ("__debug__" : Str)) = false := by decide)
    (hst : starEach (e :: []) X.env = (false, eval e X.env) :: starEach [] X.env := by rfl) (hpl : (backTo pos (starEach [] X.env)).any (·.1) = false := by rfl) :
    DS X (.Raise (some (.Call (.Name x p) [e] [] pos)) none pos2) (wRaise x Fe) := by
  obtain ⟨R, fI, fd, hF, hb, ht, hR, hC⟩ := E.ex
  obtain ⟨C, hC⟩ := hC x hx
  refine ⟨fun B W tk => ⟨fun pins s st H D I ⟨m, en, S, dn, g, f, q1, q2, q3, q4⟩ => ?_⟩⟩
  have mk := pmk_oex (X := X) (p := p) (pos := pos) (es := []) hC.oex hC.ini ht (init_ok (k := k) hF) hr hb .nil (passes_call tk fun _ _ _ _ h => h.elim) hg hC.mgx (pa_cons (he.go B W tk) pa_nil hst) hdb hst hpl
  refine (ps_raise hc tk mk).run pins s st H D I ?_
  refine ⟨m, en, S, _, g, f, fun v H1 p1 => ?_⟩
  obtain ⟨m1, S1, w1, e1, r1, v1, h1⟩ := p1
  refine ⟨by simp, fun a ha => ⟨a, C, v, x, rfl, hC, upd_same, fun dx hd ne => ⟨rfl, dx, [("what", v)], upd_same, ?_, ?_, ?_⟩⟩⟩
  · rw [upd_ne ne, upd_same]
  · rw [upd_ne ne] at hd
    exact hd
  · have hd' : H1 dx = none := by rw [upd_ne ne] at hd; exact hd
    have eH : (upd (L2.del (upd (upd (upd H1 a (exo a C none)) dx (exd dx [("what", v)])) a (exo a C (some dx))) a) dx (.xd [("what", v)])) = upd H1 dx (.xd [("what", v)]) := by
      funext b
      by_cases h1 : b = dx
      · subst h1
        rw [upd_same, upd_same]
      · rw [upd_ne h1, upd_ne h1]
        by_cases h2 : b = a
        · subst h2
          rw [del_same, ha]
        · rw [del_ne h2, upd_ne h2, upd_ne h1, upd_ne h2]
    rw [eH]
    cases w1 with
    | r i => exact h1.elim
    | s xs => exact h1.elim
    | d y =>
      have g1 := g.next e1 r1
      have E2 : Ext m1 H1 m1 (upd H1 dx (.xd [("what", v)])) := Ext.new hd'
      refine ⟨m1, en, S1, ⟨x, y⟩, g1.ex.trans E2, r1.fresh hd', g1.env.mono E2, ⟨C, dx, v, hC.mgx, rfl, rfl, upd_same, ?_, ?_⟩, h1⟩
      · exact r1.newF hd'
      · cases v1 with
        | d v1 => exact ⟨v1.mono E2, R, fI, hR, hC⟩
end

/-! ### try with several clauses -/
abbrev Clause := Value × Option Nat × (Addr → Value → Option Addr → TS)
/-- the ends behind a clause that named the error -/
def unE (D : Ends) (i : Nat) : Ends := ⟨fun st H => D.nx (st.set i none) H, D.rt, fun st H => D.bk (st.set i none) H, fun st H => D.ct (st.set i none) H⟩
def runC (D : Ends) (c : Clause) (a : Addr) (cls : Value) (d : Option Addr) (st : L2.St) (H : Hp) : Prop := match c.2.1 with
  | none => c.2.2 a cls d D st H
  | some i => c.2.2 a cls d (unE D i) (st.set i (some (.ref a))) H
/-- what the clauses wish of an error of the body -/
def wCs (K : PySem.W.Frag) (out : WX) (D : Ends) : List Clause → WX
  | [] => out
  | c :: r => fun cls d st H => ∃ b, PySem.W.exmOne K cls c.1 = some b ∧ (b = true → ∀ a, H a = none → runC D c a cls d st H) ∧ (b = false → wCs K out D r cls d st H)
/-- a clause's text -/
inductive CsOk (X : Cx) : List ExceptHandler → List Clause → Prop
  | nil : CsOk X [] []
  | bare {x : Str} {v : Value} {ts : Addr → Value → Option Addr → TS} {b1 : Stmt} {bs : List Stmt} {p q : Pos} {hs : List ExceptHandler} {cs : List Clause} (nm : Names X x v)
      (su : ∀ (a : Addr) (oe : Obj) (cls : Value) (d : Option Addr) (pn : List (Addr × Obj)), Zc cls d oe → (∃ vs, oe.data = .fields vs) → PSs (X.suite a ((a, oe) :: pn)) (b1 :: bs) (ts a cls d)) (rest : CsOk X hs cs) :
      CsOk X (.ExceptHandler (some (.Name x p)) none (b1 :: bs) q :: hs) ((v, none, ts) :: cs)
  | named {x n : Str} {v : Value} {i : Nat} {ts : Addr → Value → Option Addr → TS} {b1 : Stmt} {bs : List Stmt} {p q : Pos} {hs : List ExceptHandler} {cs : List Clause} (nm : Names X x v) (hN : X.N.Nodup) (hi : X.N[i]? = some n) (hl : X.env.kindOf n = some .local)
      (su : ∀ (a : Addr) (oe : Obj) (cls : Value) (d : Option Addr) (pn : List (Addr × Obj)), Zc cls d oe → (∃ vs, oe.data = .fields vs) → PSs (X.suite a ((a, oe) :: pn)) (b1 :: bs) (ts a cls d)) (rest : CsOk X hs cs) :
      CsOk X (.ExceptHandler (some (.Name x p)) (some n) (b1 :: bs) q :: hs) ((v, some i, ts) :: cs)
section
variable {X : Cx} {body : List Stmt} {h1 : ExceptHandler} {hs : List ExceptHandler} {cs : List Clause} {pos : Pos} {tb : WX → TS} {out : WX}
theorem SP.end_suite {pins : List (Addr × Obj)} {D : Ends} {a : Addr} {o : Addr × Obj} {f : Flow} {s : Shared} (ok : X.Ok) (h : SP (X.suite a (o :: (X.pn ++ pins))) [] D f s) : SP X pins D f s := by
  cases f with
  | next => exact let ⟨st, H, J, q⟩ := h; ⟨st, H, J.unsuite ok, q⟩
  | brk => exact let ⟨st, H, J, q⟩ := h; ⟨st, H, J.unsuite ok, q⟩
  | cont => exact let ⟨st, H, J, q⟩ := h; ⟨st, H, J.unsuite ok, q⟩
  | ret u => exact let ⟨v, st, H, J, r, q⟩ := h; ⟨v, st, H, J.unsuite ok, r, q⟩
theorem ps_try_cs (stk : X.stack = X.env :: X.outer) (fr : X.env.frame = some X.env.locals) (tk : Takes X out)
    (hb : ∀ (W : WX) (pn : List (Addr × Obj)) (xe : Value → Shared → Prop), Takes (X.tr pn xe) W → PassesOwn (model X.prog X.w) X.A X.env xe → PSs (X.tr pn xe) body (tb W)) (hc : CsOk X (h1 :: hs) cs) :
    PS X (.Try body (h1 :: hs) [] [] pos) (fun D st H => tb (wCs X.K out D cs) D st H) := by
  refine ⟨fun pins s st H D I wish => ?_⟩
  have ok := I.ok
  have frames : X.A.frames = some (X.env :: X.outer) := by rw [ok.frames, stk]
  let air : Value → Shared → Prop := fun e s1 => wpAny (model X.prog X.w) X.A (noteFrame e X.env)
    (fun _ s2 => wpAny (model X.prog X.w) X.A (setFlight e none) (fun _ s3 => wpAny (model X.prog X.w) X.A (handleBy e X.env (h1 :: hs)) (SP X pins D) X.xe s3) X.xe s2) X.xe s1
  have takes : Takes (X.tr (X.pn ++ pins) air) (wCs X.K out D cs) := by
    rintro u s1 ⟨a, Gr, s0, pn1, st1, H1, cls, d, rfl, J0, kept, slots, sky, free, hos, hbare, w⟩
    have J : Inv X pins st1 H1 s0 := J0.ofTry ok
    have sky1 : Sky Gr (X.env :: X.outer) a (Zc cls d) X.env.locals s1.heap := stk ▸ sky
    show wpAny (model X.prog X.w) X.A (noteFrame (.ref a) X.env) _ _ _
    refine Sky.land Zc.steady frames fr sky1 fun hp3 fly up3 => ?_
    have J3 : Inv X pins st1 H1 { s1 with heap := hp3 } := J.landed kept fly.1 (slots.trans up3) hos hbare
    obtain ⟨o3, vs3, at3, z3, dat3⟩ := fly.there
    have far : a ∉ frs (X.env :: X.outer) := fun hm => by
      obtain ⟨_, o', e', nofields⟩ := fly.2.2.1.mem hm
      rw [at3] at e'
      cases e'
      exact nofields _ dat3
    have farL : a ≠ X.env.locals := fun z => far (List.mem_filterMap.mpr ⟨X.env, List.mem_cons_self, by rw [fr, z]⟩)
    have farF : a ∉ X.fs := fun hm => let ⟨e, he, q⟩ := List.mem_filterMap.mp hm; far (List.mem_filterMap.mpr ⟨e, List.mem_cons_of_mem _ he, q⟩)
    have S3 := J3.suite at3 dat3 free farL farF
    have ty : PySem.W.Looks (model X.prog X.w) hp3 (typeOf (.ref a)) cls := fun A Q E s k q => wpAny_typeOf_ref (k _ _ at3) (by rw [z3.1]; exact q)
    have ask : ∀ {x : Str} {v : Value} {p : Pos} {Q : Value → Shared → Prop} {E : Value → Shared → Prop}, Names X x v → Q v { s1 with heap := hp3 } → wpAny (model X.prog X.w) (X.A.mark (some (.ref a))) (eval (.Name x p) X.env) Q E { s1 with heap := hp3 } := by
      rintro x v p Q E ⟨gl, ndb, hm | ⟨hm, hv, nn⟩⟩ q
      · exact ld_glob (X := X.suite a ((a, o3) :: (X.pn ++ pins))) S3 gl hm q ndb
      · exact ld_blt (X := X.suite a ((a, o3) :: (X.pn ++ pins))) S3 gl hm hv q nn ndb
    have go : ∀ {hs1 : List ExceptHandler} {cs1 : List Clause}, CsOk X hs1 cs1 → wCs X.K out D cs1 cls d st1 H1 → wpAny (model X.prog X.w) X.A (handleBy (.ref a) X.env hs1) (SP X pins D) X.xe { s1 with heap := hp3 } := by
      intro hs1 cs1 hk
      induction hk with
      | nil =>
        intro w
        refine wpAny_handleBy_nil ?_
        obtain ⟨_, _, _, o4, vs4, T, oT, ts4, at4, z4, dat4, at1, _⟩ := id fly
        unfold PySem.passOn
        refine wpAny_bind (wpAny_field at4 dat4 at1 ?_)
        rw [if_neg (show ¬ ((Value.ref T == Value.none) = true) by simp)]
        have last : wpAny (model X.prog X.w) X.A (setFlight (.ref a) X.env.frame) (fun _ s4 => wpAny (model X.prog X.w) X.A (throw (.ref a) : Sem Flow) (SP X pins D) X.xe s4) X.xe { s1 with heap := hp3 } := by
          rw [fr]
          exact HandSPX.setFlight_upZ fly fun hp4 held up4 => wpAny_throw (tk _ _ ⟨a, Gr, s0, pins, st1, H1, cls, d, rfl, J, kept, (slots.trans up3).trans up4, .inr (.inr (stk ▸ held)), free, hos, hbare, w⟩)
        first | exact wpAny_bind (wpAny_pure (wpAny_bind last)) | exact wpAny_bind last
      | @bare x v ts b1 bs p q hs2 cs2 nm su rest ih =>
        rintro ⟨b, eb, yes, no⟩
        refine wpAny_handleBy_cons (codeAny_handlers_test ?_) (by intro z; cases z)
        refine ask nm ((PySem.W.exm_one (M := model X.prog X.w) J3.kIn ty eb).here ?_)
        cases b with
        | false => exact ih (no rfl)
        | true =>
          refine codeAny_handlers_suite (HandSPX.lands_againZ fly fun hp4 fly4 up4 => ?_)
          have J4 : Inv X pins st1 H1 { s1 with heap := hp4 } := J.landed kept fly4.1 ((slots.trans up3).trans up4) hos hbare
          obtain ⟨o4, vs4, at4, z4, dat4⟩ := fly4.there
          exact wpAny_mono ((su a o4 cls d (X.pn ++ pins) z4 ⟨_, dat4⟩).run [] _ _ H1 _ (J4.suite at4 dat4 free farL farF) (yes rfl a free)) (fun f s6 h6 => by
            have h7 := SP.end_suite ok h6
            cases f <;> exact h7) fun _ _ z => z.elim
      | @named x n v i ts b1 bs p q hs2 cs2 nm hN hi hl su rest ih =>
        rintro ⟨b, eb, yes, no⟩
        refine wpAny_handleBy_cons (codeAny_handlers_test ?_) (by intro z; cases z)
        refine ask nm ((PySem.W.exm_one (M := model X.prog X.w) J3.kIn ty eb).here ?_)
        cases b with
        | false => exact ih (no rfl)
        | true =>
          refine codeAny_handlers_suite_as (HandSPX.lands_againZ fly fun hp4 fly4 up4 => ?_)
          have J4 : Inv X pins st1 H1 { s1 with heap := hp4 } := J.landed kept fly4.1 ((slots.trans up3).trans up4) hos hbare
          obtain ⟨o4, vs4, at4, z4, dat4⟩ := fly4.there
          refine store_ok (X := X.suite a ((a, o4) :: (X.pn ++ pins))) (v := .ref a) (J4.suite at4 dat4 free farL farF) hN hi (.inl hl) rfl (fun s5 S5 => ?_) (.inr hl)
          refine wpAny_mono ((su a o4 cls d (X.pn ++ pins) z4 ⟨_, dat4⟩).run [] s5 _ H1 _ S5 (yes rfl a free)) (fun f s6 h6 => ?_) fun _ _ z => z.elim
          have h7 := SP.end_suite ok h6
          cases f with
          | next => exact let ⟨st6, H6, J6, q6⟩ := h7; gone_ok J6 hN hi hl fun s7 J7 => ⟨_, _, J7, q6⟩
          | brk => exact let ⟨st6, H6, J6, q6⟩ := h7; gone_ok J6 hN hi hl fun s7 J7 => ⟨_, _, J7, q6⟩
          | cont => exact let ⟨st6, H6, J6, q6⟩ := h7; gone_ok J6 hN hi hl fun s7 J7 => ⟨_, _, J7, q6⟩
          | ret u => exact let ⟨v6, st6, H6, J6, r6, q6⟩ := h7; gone_ok J6 hN hi hl fun s7 J7 => ⟨_, _, _, J7, r6, q6⟩
    exact go hc w
  refine wpAny_Try_except (wpAny_mono ((hb (wCs X.K out D cs) (X.pn ++ pins) air takes PassesOwn.looking).run [] s st H D (I.toTry _) wish) (fun f s1 h1 => ?_) fun _ _ z => z)
  cases f with
  | next => exact let ⟨st1, H1, J1, q⟩ := h1; wpAny_execs_nil ⟨st1, H1, J1.ofTry ok, q⟩
  | brk => exact let ⟨st1, H1, J1, q⟩ := h1; ⟨st1, H1, J1.ofTry ok, q⟩
  | cont => exact let ⟨st1, H1, J1, q⟩ := h1; ⟨st1, H1, J1.ofTry ok, q⟩
  | ret u => exact let ⟨v, st1, H1, J1, r, q⟩ := h1; ⟨v, st1, H1, J1.ofTry ok, r, q⟩
end
end DL

set_option Elab.async false
set_option linter.all false
set_option maxRecDepth 100000
set_option maxHeartbeats 4000000
/-! DL17: try over data. -/
namespace DL
open PySem PySem.Spec PyProof.Rows L2

abbrev HdW := Str × Option Nat × (Exc → WS)
def unD (dn : DN) (i : Nat) : DN := ⟨fun e s => dn.nx (e.set i none) s, dn.rt, fun e s => dn.bk (e.set i none) s, fun e s => dn.ct (e.set i none) s⟩
def catchW (hs : List HdW) (W : XQ) (dn : DN) : XQ := match hs with
  | [] => W
  | (y, oi, G) :: r => fun x en S => if caught x.name y = true then (match oi with
    | none => G x noX dn en S
    | some i => G x noX (unD dn i) (en.set i none) S) else catchW r W dn x en S
def wTry (F : WS) (hs : List HdW) : WS := fun W dn en S => F (catchW hs W dn) dn en S
/-- the stage at an except suite's entry -/
def lH (X : Cx) (B : Bs) (G : Exc → WS) (oi : Option Nat) (a : Addr) (cls : Value) (d : Option Addr) : TS := fun D st H => ∃ m en S dn x, Stg X.K B m H S st en ∧ RX X.K X.mg m H cls d x ∧ (∀ i, oi = some i → i < st.length → st[i]? = some (some (.ref a))) ∧ G x noX dn en S ∧
  (∀ st' H', PostS X.K m H dn.nx st' H' → D.nx st' H') ∧ (∀ v H', Post X.K m H dn.rt v H' → D.rt v H') ∧ (∀ st' H', PostS X.K m H dn.bk st' H' → D.bk st' H') ∧ (∀ st' H', PostS X.K m H dn.ct st' H' → D.ct st' H')
structure DH (X : Cx) (oi : Option Nat) (suite : List Stmt) (G : Exc → WS) : Prop where
  go : ∀ (B : Bs) (a : Addr) (oe : Obj) (cls : Value) (d : Option Addr) (pn : List (Addr × Obj)), Zc cls d oe → (∃ vs, oe.data = .fields vs) → PSs (X.suite a ((a, oe) :: pn)) suite (lH X B G oi a cls d)
section
variable {X : Cx} {ns : List Str} {oi : Option Nat} {suite : List Stmt} {G : WS}
theorem dh_of (h : ∀ (a : Addr) (pn : List (Addr × Obj)), DSs (X.suite a pn) suite G) : DH X oi suite (fun _ => G) :=
  ⟨fun B a oe cls d pn _ _ => ⟨fun pins s st H D I ⟨m, en, S, dn, x, g, _, _, f, q⟩ => ((h a ((a, oe) :: pn)).go B noX takes_no).run pins s st H D I ⟨m, en, S, dn, g, f, q⟩⟩⟩
end
/-- an expression of the caught error's what -/
def lXe (X : Cx) (f : PyData → PyData) (i : Nat) (a : Addr) (cls : Value) (d : Option Addr) : TE := fun st H Q => ∃ m S x, Rel X.K m H S ∧ RX X.K X.mg m H cls d x ∧ (i < st.length → st[i]? = some (some (.ref a))) ∧
  ∀ v H', Post X.K m H (fun w S' => w = .d (f x.arg) ∧ S' = S) v H' → Q v H'
structure DXE (X : Cx) (e : Expr) (i : Nat) (f : PyData → PyData) : Prop where
  go : ∀ (a : Addr) (oe : Obj) (cls : Value) (d : Option Addr) (pn : List (Addr × Obj)), Zc cls d oe → (∃ vs, oe.data = .fields vs) → PE (X.suite a ((a, oe) :: pn)) e (lXe X f i a cls d)
section
variable {X : Cx} {ns : List Str} {i j : Nat} {e : Expr} {f : PyData → PyData} {n y z : Str} {p p2 pos : Pos}
theorem dx_what (hi : X.N[i]? = some n) (hv : Vis X.env.scope n := by exact Or.inl rfl) (hd : (n == ("__debug__" : Str)) = false := by decide) (hcd : (n == ("__classdict__" : Str)) = false := by decide)
    (hb : ∀ a pn, attributeBase (.Name n p) "what" (X.suite a pn).env (eval (.Name n p) (X.suite a pn).env) = eval (.Name n p) (X.suite a pn).env := by intro _ _; rfl) : DXE X (.Attribute (.Name n p) "what" p2) i id := by
  refine ⟨fun a oe cls d pn hz hf => ⟨fun pins s st H Q I ⟨m, S, x, r, rx, hs, q⟩ => ?_⟩⟩
  obtain ⟨C, dd, v, a1, a2, a3, a4, a5, a6, R, fI, _, hX⟩ := rx
  have hm := hX.mgx
  rw [a1] at hm
  cases hm
  have hlt : i < st.length := by
    have q1 : i < X.N.length := (List.getElem?_eq_some_iff.mp hi).1
    have q2 : st.length = X.N.length := I.len
    omega
  exact (pe_xf hX.xf hX.wh hz hf (pe_var (i := i) hi hv hd hcd) (hb a ((a, oe) :: pn))).run pins s st H Q I ⟨_, hs hlt, rfl, a2, dd, _, v, a3, a4, rfl, q _ _ (Post.here r (.d a6) ⟨rfl, rfl⟩)⟩
theorem dx_pair {c k} (h : DXE X e i f) (he : ∀ a pn, starEach [e] (X.suite a pn).env = (false, eval e (X.suite a pn).env) :: starEach [] (X.suite a pn).env := by intro _ _; rfl)
    (hc : ∀ a pn, starEach [.Constant (.str z) k p, e] (X.suite a pn).env = (false, eval (.Constant (.str z) k p) (X.suite a pn).env) :: starEach [e] (X.suite a pn).env := by intro _ _; rfl) : DXE X (.Tuple [.Constant (.str z) k p, e] c pos) i (fun y => .tuple [.str z, f y]) := by
  refine ⟨fun a oe cls d pn hz hf => ⟨fun pins s st H Q I ⟨m, S, x, r, rx, hs, q⟩ => ?_⟩⟩
  refine (pe_tup (pa_cons pe_str (pa_cons (h.go a oe cls d pn hz hf) pa_nil (he a ((a, oe) :: pn))) (hc a ((a, oe) :: pn)))).run pins s st H Q I ?_
  refine ⟨m, S, x, r, rx, hs, fun v H1 p1 => ?_⟩
  obtain ⟨m1, S1, w1, e1, r1, v1, rfl, rfl⟩ := p1
  cases v1 with
  | d v1 =>
    refine ⟨by rw [sizeLine_eq]; simp, ?_⟩
    exact post_tup r1 (.cons (.str z) (.cons v1 .nil)) (k := fun w S' => w = .d (.tuple [.str z, f x.arg]) ∧ S' = S1) ⟨rfl, rfl⟩ fun v H' p => q v H' (p.tr e1)
theorem dh_ret (h : DXE X e i f) : DH X (some i) [.Return (some e) pos] (fun x W dn en S => dn.rt (.d (f x.arg)) S) := by
  refine ⟨fun B a oe cls d pn hz hf => ⟨fun pins s st H D I ⟨m, en, S, dn, x, g, rx, hs, hG, q1, q2, q3, q4⟩ => ?_⟩⟩
  refine (pss_one (ps_ret (h.go a oe cls d pn hz hf))).run pins s st H D I ⟨m, S, x, g.rel, rx, hs i rfl, fun v H' p => q2 v H' ?_⟩
  obtain ⟨m1, S1, w1, e1, r1, v1, rfl, rfl⟩ := p
  exact ⟨m1, S1, _, e1, r1, v1, hG⟩
theorem dh_set (h : DXE X e i f) (hN : X.N.Nodup) (hj : X.N[j]? = some y) (hy : Loc X.env.scope y := by exact Or.inl rfl) (hfn : X.fn y = true ∨ X.env.scope.names.lookup y = some .local := by first | exact .inl rfl | exact .inr rfl)
    (hs' : ∀ a pn, swapsWith e (some (.Name y p)) pos.line (X.suite a pn).env = pure false := by intro _ _; rfl) : DH X (some i) [.Assign [.Name y p] e pos] (fun x W dn en S => dn.nx (en.set j (some (.d (f x.arg)))) S) := by
  refine ⟨fun B a oe cls d pn hz hf => ⟨fun pins s st H D I ⟨m, en, S, dn, x, g, rx, hs, hG, q1, q2, q3, q4⟩ => ?_⟩⟩
  refine (pss_one (ps_set (X := X.suite a ((a, oe) :: pn)) (i := j) hN hj hy (h.go a oe cls d pn hz hf) (hs' a ((a, oe) :: pn)) hfn)).run pins s st H D I ⟨m, S, x, g.rel, rx, hs i rfl, fun v H' p => q1 _ H' ?_⟩
  obtain ⟨m1, S1, w1, e1, r1, v1, rfl, rfl⟩ := p
  exact ⟨m1, _, _, e1, r1, (g.env.mono e1).set v1, hG⟩
end
/-- a clause over data -/
structure DC (X : Cx) (ns : List Str) (h : ExceptHandler) (w : HdW) : Prop where
  ex : ∃ (p q : Pos) (b1 : Stmt) (bs : List Stmt), w.1 ∈ ns ∧ Gl X w.1 ∧ (w.1 == ("__debug__" : Str)) = false ∧ DH X w.2.1 (b1 :: bs) w.2.2 ∧ ((h = .ExceptHandler (some (.Name w.1 p)) none (b1 :: bs) q ∧ w.2.1 = none) ∨
    ∃ n i, h = .ExceptHandler (some (.Name w.1 p)) (some n) (b1 :: bs) q ∧ w.2.1 = some i ∧ X.N.Nodup ∧ X.N[i]? = some n ∧ X.env.kindOf n = some .local)
inductive DCs (X : Cx) (ns : List Str) : List ExceptHandler → List HdW → Prop
  | nil : DCs X ns [] []
  | cons {h : ExceptHandler} {w : HdW} {hs : List ExceptHandler} {ws : List HdW} : DC X ns h w → DCs X ns hs ws → DCs X ns (h :: hs) (w :: ws)
section
variable {X : Cx} {ns : List Str} {body : List Stmt} {F : WS} {h1 : ExceptHandler} {hs : List ExceptHandler} {ws : List HdW} {pos : Pos}
theorem cs_of (E : Errs X.prog X.w X.K X.mg ns) (B : Bs) (hc : DCs X ns hs ws) : ∃ cs : List Clause, CsOk X hs cs ∧ ∀ (W : XQ) (D : Ends) (dn : DN) (m0 : Ids) (H0 : Hp) (cls : Value) (d : Option Addr) (st : L2.St) (H : Hp) (m : Ids) (en : Env) (S : Sto) (x : Exc),
    Ext B.1 B.2 m0 H0 → Ext m0 H0 m H → Rel X.K m H S → REnv X.K m H st en → RX X.K X.mg m H cls d x → catchW ws W dn x en S →
    (∀ st' H', PostS X.K m0 H0 dn.nx st' H' → D.nx st' H') → (∀ v H', Post X.K m0 H0 dn.rt v H' → D.rt v H') → (∀ st' H', PostS X.K m0 H0 dn.bk st' H' → D.bk st' H') → (∀ st' H', PostS X.K m0 H0 dn.ct st' H' → D.ct st' H') →
    wCs X.K (lX X B W) D cs cls d st H := by
  obtain ⟨R, fI, fd, _, _, _, hR, hC⟩ := E.ex
  induction hc with
  | nil => exact ⟨[], .nil, fun W D dn m0 H0 cls d st H m en S x e0 e1 r g rx f _ _ _ _ => ⟨m, en, S, x, e0.trans e1, r, g, rx, f⟩⟩
  | @cons h w hs ws hd _ ih =>
    obtain ⟨cs, ok, run⟩ := ih
    obtain ⟨p, q, b1, bs, hin, hg, hdb, dh, hh⟩ := hd.ex
    obtain ⟨Cy, hCy⟩ := hC w.1 hin
    have nm : Names X w.1 (.ref Cy) := ⟨hg, hdb, .inl hCy.mgx⟩
    obtain ⟨y, oi, G⟩ := w
    dsimp only at *
    have eb : ∀ {m : Ids} {H : Hp} {cls : Value} {d : Option Addr} {x : Exc}, RX X.K X.mg m H cls d x → PySem.W.exmOne X.K cls (.ref Cy) = some (caught x.name y) := by
      rintro m H cls d x ⟨C', dd, v, a1, a2, _, _, _, _, R', fI', hR', hX⟩
      have e1 := hR'.mgx
      rw [hR.mgx] at e1
      cases e1
      have e2 := hR'.ini
      rw [hR.ini] at e2
      cases e2
      have e3 := hX.mgx
      rw [a1] at e3
      cases e3
      rw [a2]
      exact XC.exm hR hX hCy
    rcases hh with ⟨rfl, rfl⟩ | ⟨n, i, rfl, rfl, hN, hi, hl⟩
    · refine ⟨(.ref Cy, none, lH X B G none) :: cs, .bare nm (fun a oe cls d pn hz hf => dh.go B a oe cls d pn hz hf) ok, fun W D dn m0 H0 cls d st H m en S x e0 e1 r g rx f k1 k2 k3 k4 => ⟨_, eb rx, fun hb a na => ?_, fun hb => ?_⟩⟩
      · simp only [catchW] at f
        rw [if_pos hb] at f
        exact ⟨m, en, S, dn, x, ⟨e0.trans e1, r, g⟩, rx, (fun i z => by cases z), f, fun st' H' z => k1 _ _ (PostS.tr e1 z), fun v H' z => k2 _ _ (Post.tr e1 z), fun st' H' z => k3 _ _ (PostS.tr e1 z), fun st' H' z => k4 _ _ (PostS.tr e1 z)⟩
      · simp only [catchW] at f
        rw [if_neg (by rw [hb]; exact Bool.false_ne_true)] at f
        exact run W D dn m0 H0 cls d st H m en S x e0 e1 r g rx f k1 k2 k3 k4
    · refine ⟨(.ref Cy, some i, lH X B G (some i)) :: cs, .named nm hN hi hl (fun a oe cls d pn hz hf => dh.go B a oe cls d pn hz hf) ok, fun W D dn m0 H0 cls d st H m en S x e0 e1 r g rx f k1 k2 k3 k4 => ⟨_, eb rx, fun hb a na => ?_, fun hb => ?_⟩⟩
      · simp only [catchW] at f
        rw [if_pos hb] at f
        have un : ∀ {p : Pt} {st' : L2.St} {H' : Hp}, PostS X.K m H (fun e s => p (e.set i none) s) st' H' → PostS X.K m0 H0 p (st'.set i none) H' := fun {p st' H'} ⟨m', S', en', ee, rr, gg, pp⟩ => ⟨m', S', en'.set i none, e1.trans ee, rr, gg.unset, pp⟩
        have gi : REnv X.K m H (st.set i (some (.ref a))) (en.set i none) := by
          refine ⟨by simp [g.len], fun j w' e => ?_⟩
          by_cases hj : j = i
          · subst hj
            by_cases hl : j < en.length
            · rw [List.getElem?_set_self hl] at e
              cases e
            · rw [List.set_eq_of_length_le (by omega)] at e
              exact absurd (List.getElem?_eq_some_iff.mp e).1 hl
          · rw [List.getElem?_set_ne (Ne.symm hj)] at e
            obtain ⟨v', h1, h2⟩ := g.at_ j w' e
            exact ⟨v', by rw [List.getElem?_set_ne (Ne.symm hj)]; exact h1, h2⟩
        exact ⟨m, en.set i none, S, unD dn i, x, ⟨e0.trans e1, r, gi⟩, rx, fun i' z hlt => by
            cases z
            rw [List.length_set] at hlt
            exact List.getElem?_set_self hlt, f, fun st' H' z => k1 _ _ (un z), fun v H' z => k2 _ _ (Post.tr e1 z), fun st' H' z => k3 _ _ (un z), fun st' H' z => k4 _ _ (un z)⟩
      · simp only [catchW] at f
        rw [if_neg (by rw [hb]; exact Bool.false_ne_true)] at f
        exact run W D dn m0 H0 cls d st H m en S x e0 e1 r g rx f k1 k2 k3 k4
theorem ds_try (E : Errs X.prog X.w X.K X.mg ns) (stk : X.stack = X.env :: X.outer) (fr : X.env.frame = some X.env.locals)
    (hb : ∀ (pn : List (Addr × Obj)) (xe : Value → Shared → Prop), PassesOwn (model X.prog X.w) X.A X.env xe → DSs (X.tr pn xe) body F) (hc : DCs X ns (h1 :: hs) ws) : DS X (.Try body (h1 :: hs) [] [] pos) (wTry F ws) := by
  refine ⟨fun B W tk => ?_⟩
  obtain ⟨cs, ok, run⟩ := cs_of E B hc
  refine ⟨fun pins s st H D I ⟨m, en, S, dn, g, f, q1, q2, q3, q4⟩ => ?_⟩
  refine (ps_try_cs (pos := pos) (tb := fun W' D st H => ∃ (B' : Bs) (Wc : XQ), (∀ cls d st' H', lX X B' Wc cls d st' H' → W' cls d st' H') ∧ lS X.K B' F Wc D st H) stk fr tk (fun W' pn xe tk' po => ⟨fun pins s st H D I ⟨B', Wc, imp, f⟩ => ?_⟩) ok).run pins s st H D I ?_
  · exact ((hb pn xe po).go B' Wc (fun u s' xx => tk' u s' (by
      obtain ⟨a, b, c, d, e, f, g', h, q, i, j, k, l, m', n, o, w⟩ := xx
      exact ⟨a, b, c, d, e, f, g', h, q, i, j, k, l, m', n, o, imp _ _ _ _ w⟩))).run pins s st H D I f
  · refine ⟨(m, H), _, fun cls d st' H' => ?_, m, en, S, dn, ⟨Ext.refl, g.rel, g.env⟩, f, q1, q2, q3, q4⟩
    rintro ⟨m', en', S', x, e', r', g', rx, f'⟩
    exact run W D dn m H cls d st' H' m' en' S' x g.ex e' r' g' rx f' q1 q2 q3 q4
theorem dc_bare {y : Str} {G : Exc → WS} {b1 : Stmt} {bs : List Stmt} {p q : Pos} (hin : y ∈ ns) (h : DH X none (b1 :: bs) G) (hg : Gl X y := by rfl) (hdb : (y == ("__debug__" : Str)) = false := by decide) : DC X ns (.ExceptHandler (some (.Name y p)) none (b1 :: bs) q) (y, none, G) :=
  ⟨p, q, b1, bs, hin, hg, hdb, h, .inl ⟨rfl, rfl⟩⟩
theorem dc_as {y n : Str} {i : Nat} {G : Exc → WS} {b1 : Stmt} {bs : List Stmt} {p q : Pos} (hin : y ∈ ns) (hN : X.N.Nodup) (hi : X.N[i]? = some n) (h : DH X (some i) (b1 :: bs) G) (hl : X.env.kindOf n = some .local := by rfl) (hg : Gl X y := by rfl) (hdb : (y == ("__debug__" : Str)) = false := by decide) : DC X ns (.ExceptHandler (some (.Name y p)) (some n) (b1 :: bs) q) (y, some i, G) :=
  ⟨p, q, b1, bs, hin, hg, hdb, h, .inr ⟨n, i, rfl, rfl, hN, hi, hl⟩⟩
end
end DL

set_option Elab.async false
set_option linter.all false
set_option maxRecDepth 100000
set_option maxHeartbeats 4000000
/-! DL18: enumerate, zip. -/
namespace DL
open PySem PySem.Spec PyProof.Rows L2

/-! ### enumerate of a tuple -/
def ItET (K : PySem.W.Frag) (a : Addr) : It :=
  ⟨fun i H => ∃ (xs : List V) (x : V), SqT K H a xs ∧ xs[i]? = some x,
   fun i H v H' => ∃ T x, v = .ref T ∧ H T = none ∧ H' = upd H T (.tup [.int (i : Nat), x]) ∧ ∀ xs, SqT K H a xs → xs[i]? = some x,
   fun i H => ∃ xs : List V, SqT K H a xs ∧ xs.length ≤ i⟩
section
variable {prog : Program} {w : World} {A : Around} {E : Value → Shared → Prop} {s : Shared}
theorem enum_end {e it t : Addr} {items : Array Value} {c : Int} {i : Nat} {old : Value} {Q : Option Value → Shared → Prop} (hh : A.handled = none) (he : IsEnum s.heap e it c old) (hi : s.heap.IsTupleIter it t i) (ht : s.heap.IsTuple t items) (hx : items[i]? = none)
    (hQ : ∀ h', Heap.ExtBut it s.heap h' → Q none { s with heap := h' }) : wpAny (model prog w) A (pyNext (.ref e)) Q E s := by
  have tE : s.TypeIs (.ref e) "enumerate" := ⟨_, he, rfl⟩
  unfold pyNext
  refine wpAny_bind (wpAny_attempt (wpAny_callSpecial?_slot (name := Str.ofString "__next__") tE F.slot_enumerate_next (wpAny_call_entry F.slot_enumerate_next tE F.entry_enumerate_next ?_ (F.args_enumerate_next_1 _))))
  show wpAny _ _ (field (.ref e) 2 >>= _) _ _ _
  refine wpAny_bind (wpAny_field he rfl (x := .ref it) rfl ?_)
  refine wpAny_bind (PySem.wpAny_nextOf_tuple_end (by first | exact hh | rfl) hi ht hx fun h1 x1 ex1 ⟨o1, ho1, hc1⟩ => ?_)
  refine wpAny_bind (wpAny_isInstance (T := "StopIteration") (b := true) ⟨o1, ho1, hc1⟩ isSubtype_stop ?_)
  exact wpAny_pure (hQ _ ex1)
set_option maxHeartbeats 8000000 in
theorem meets_enum1 {v : Value} {o : Obj} {H : Heap → Prop} (B : PySem.Begins v o H) :
    Meets (Builtin.«enumerate.__new__» ⟨[.type "enumerate", v], []⟩) (fun _ R s => H s.heap ∧
      R (.ok (.ret (.ref (s.heap.push o).objs.size))) { s with heap := (s.heap.push o).push { cls := .type "enumerate", data := .fields #[.none, .bool false, .ref s.heap.objs.size, rawInt 0, .none, .none] } }) :=
  .of_wp fun prog w A R s h => by
    obtain ⟨hp, g, d, tk, os⟩ := s
    obtain ⟨h1, h⟩ := h
    have hsub := sub_enumerate
    have it1 : ∀ {A' : Around} {E : Value → Shared → Prop} {Q : Value → Shared → Prop}, Q (.ref hp.objs.size) ⟨hp.push o, g, d, tk, os⟩ → wpAny (model prog w) A' (pyIter v) Q E ⟨hp, g, d, tk, os⟩ := fun q => B.iter prog w _ _ ⟨hp, g, d, tk, os⟩ _ h1 q
    wp_walk using it1
    refine wpAny_stack_any fun st => wpAny_pure ?_
    split
    · rename_i c _ _ _ _ _
      cases (c == Value.type "enumerate") <;> (wp_walk using it1; exact ⟨_, rfl, h⟩)
    · wp_walk using it1
      exact ⟨_, rfl, h⟩
theorem enum_tuple {t : Addr} {items : Array Value} {Q : Value → Shared → Prop} (ht : s.heap.IsTuple t items)
    (h : ∀ h', IsEnum h' (s.heap.objs.size + 1) s.heap.objs.size 0 .none → h'.IsTupleIter s.heap.objs.size t 0 → h'.objs.size = s.heap.objs.size + 2 → (∀ b o, s.heap.get? b = some o → h'.get? b = some o) → Q (.ref (s.heap.objs.size + 1)) { s with heap := h' }) :
    wpAny (model prog w) A (call (.type "enumerate") [.ref t]) Q E s := by
  refine callType_new F.called_enumerate (by decide) (F.typeCall_enumerate_1 _) (F.newCall_enumerate_1 _) (fun obj => F.args_object_init_2 obj _) F.entry_enumerate_new (meets_enum1 (PySem.begins_tuple t items)) ⟨ht, ?_⟩
  have hz : (s.heap.push { cls := .type "tuple_iterator", data := .fields #[.ref t, .int 0 0] }).objs.size = s.heap.objs.size + 1 := Heap.size_push ..
  show _ ∧ _
  rw [hz]
  have he : IsEnum ((s.heap.push { cls := .type "tuple_iterator", data := .fields #[.ref t, .int 0 0] }).push { cls := .type "enumerate", data := .fields #[.none, .bool false, .ref s.heap.objs.size, rawInt 0, .none, .none] }) (s.heap.objs.size + 1) s.heap.objs.size 0 .none := by
    have q := Heap.get?_push_size (s.heap.push { cls := .type "tuple_iterator", data := .fields #[.ref t, .int 0 0] }) (o := { cls := .type "enumerate", data := .fields #[.none, .bool false, .ref s.heap.objs.size, rawInt 0, .none, .none] }) rfl
    rw [hz] at q
    exact q
  refine ⟨⟨_, he, rfl⟩, h _ he ?_ (by rw [Heap.size_push, hz]) fun b o x => Heap.get?_push_of_some _ (Heap.get?_push_of_some _ x)⟩
  exact ⟨_, Heap.get?_push_of_some _ (Heap.get?_push_size _ rfl), rfl, rfl⟩
end
theorem turn_enumT {P : Program} {w : World} {K : PySem.W.Frag} {elts : List Expr} {kk : Nat} {tpos : Pos} (a e it : Addr) :
    Turn P w K (.Tuple elts kk tpos) (ItET K a) [e, it] e (fun i h => (∃ old, IsEnum h e it ((i : Nat) : Int) old) ∧ h.IsTupleIter it a i ∧ e ≠ it ∧ a ≠ it ∧ e ≠ a) where
  mem := by simp
  obj := fun i h st b hb => by
    obtain ⟨⟨old, he⟩, ⟨o, ho, hc, hd⟩, _⟩ := st
    rcases (show b = e ∨ b = it by simpa using hb) with z | z
    · exact z ▸ ⟨_, he, fun v q => nomatch q⟩
    · exact z ▸ ⟨o, ho, fun v q => by rw [hd] at q; cases q⟩
  keep := fun i h h' st k => let ⟨⟨old, he⟩, hi, hne⟩ := st; ⟨⟨old, k e (by simp) _ he⟩, hi.at fun o q => k it (by simp) o q, hne⟩
  item := by
    intro X hP hw hK hc i pins s σ H E I hf st hg
    subst hP hw hK
    obtain ⟨⟨old, he⟩, hit, hne, hai, hea⟩ := st
    obtain ⟨xs, x, hq, hx⟩ := hg
    obtain ⟨its, rv, p, hz⟩ := I.tuple hq
    obtain ⟨u, hu, ru⟩ := rv.get hx
    have el : e < s.heap.objs.size := Heap.lt_size he
    have il : it < s.heap.objs.size := let ⟨_, q, _⟩ := hit; Heap.lt_size q
    have ilt : i < its.toArray.size := by
      have := (List.getElem?_eq_some_iff.mp hu).1
      simpa using this
    have p' : s.heap.IsTuple a its.toArray := p
    refine wpAny_pyNext_enum_itemD (PySem.Draws.tuple (by first | exact I.ok.hd hc | rfl) it a hai its.toArray) he ⟨hit, p'⟩ ilt hne (by simp [hne, hea]) fun y h' tk hy ho hit' hT hsz hk => ?_
    have hy' : y = u := by
      have hy1 : its.toArray[i]? = some y := hy
      have hu1 : its.toArray[i]? = some u := by simpa using hu
      rw [hu1] at hy1
      exact (Option.some.inj hy1).symm
    subst hy'
    refine ⟨_, rfl, wpAny_letOwnedTupleGo_enum (s := { s with heap := h', toks := tk + 1 }) ho fun h2 he2 sb => ?_⟩
    have hT2 : h2.get? s.heap.objs.size = some { cls := .type "tuple", data := .seq #[.int i tk, y] } := (sb.2 _ (Nat.ne_of_gt el)).trans hT
    have new : ObjOk X.prog X.w (upd H s.heap.objs.size (.tup [.int (i : Nat), x])) h2 s.heap.objs.size (.tup [.int (i : Nat), x]) := ⟨by show 2 ≤ sizeLine; decide, [.int i tk, y], .cons ⟨_, rfl⟩ (.cons ru .nil), ⟨_, hT2, rfl, _, rfl⟩⟩
    have I1 : Inv X pins σ (upd H s.heap.objs.size (.tup [.int (i : Nat), x])) { s with heap := h2, toks := tk + 1 } :=
      I.turnedNew (ch := [e, it]) (fun b o hb q => (sb.2 b fun z => hb (by simp [z])).trans (hk b o (fun z => hb (by simp [z])) (fun z => hb (by simp [z])) q)) hf (Nat.le_refl _) new
    refine ⟨.ref s.heap.objs.size, _, I1, rfl, ⟨_, x, rfl, I.hok.fresh (Nat.le_refl _), rfl, fun ys hys => by rw [I.tuple_inj hys hq]; exact hx⟩, ⟨⟨y, ?_⟩, hit'.1.at fun o q => (sb.2 it (Ne.symm hne)).trans q, hne, hai, hea⟩, fun b hb => ?_⟩
    · rw [show ((i + 1 : Nat) : Int) = (i : Int) + 1 by omega]
      exact he2
    · have hlt : b < s.heap.objs.size := by
        rcases (show b = e ∨ b = it by simpa using hb) with z | z
        · exact z ▸ el
        · exact z ▸ il
      rw [upd_ne (Nat.ne_of_lt hlt)]
      exact (hf b hb).1
  done := by
    intro X hP hw hK hc i pins s σ H E I hf st hg
    subst hP hw hK
    obtain ⟨⟨old, he⟩, hit, hne, hai, hea⟩ := st
    obtain ⟨xs, hq, hx⟩ := hg
    obtain ⟨its, rv, p, hz⟩ := I.tuple hq
    obtain ⟨f0, f1, f2, f3, f4, f5⟩ := hf it (by simp)
    have hl := rv.length
    exact enum_end (I.ok.hd hc) he hit (show s.heap.IsTuple a its.toArray from p) (by simp; omega) fun h' eb => ⟨rfl, I.turned (t' := s.toks) (fun b o hb q => eb b o hb q) f0 f1 f3 f4 f5⟩
  self := fun A i s Q E st h => let ⟨⟨_, he⟩, _⟩ := st; wpAny_pyIter_enum he h
def iEnumA (K : PySem.W.Frag) (ta : TA) : TI := fun σ H R => ta σ H fun vs H1 => ∃ a, vs = [.ref a] ∧ ((∃ xs, SqL K H1 a xs ∧ R (Ite K a) H1) ∨ ∃ xs, SqT K H1 a xs ∧ R (ItET K a) H1)
theorem pi_enumA {X : Cx} {e : Expr} {ta : TA} {p pos tpos : Pos} {elts : List Expr} {kk : Nat} (hg : Gl X "enumerate") (hm : X.mg "enumerate" = none) (ha : PA X [e] ta) (hs : starEach [e] X.env = [(false, eval e X.env)] := by rfl) :
    PI X (.Tuple elts kk tpos) (.Call (.Name "enumerate" p) [e] [] pos) (iEnumA X.K ta) := by
  refine ⟨fun pins s σ H R I h => ?_⟩
  refine Call_ (ld_blt I hg hm boot_enumerate (PyProof.Rows.callWith_type1 (thn (ha.run pos pins s σ H _ I h) fun us s1 ⟨vs, H1, I1, r1, a, ex, q1⟩ => ?_) hs rfl))
  subst ex
  cases r1 with
  | cons r rr =>
    cases rr
    cases r
    have fresh : ∀ b, b ∈ [s1.heap.objs.size + 1, s1.heap.objs.size] → FpOk X pins H1 b := fun b hb => by
      have hle : s1.heap.objs.size ≤ b := by
        rcases (show b = s1.heap.objs.size + 1 ∨ b = s1.heap.objs.size by simpa using hb) with z | z <;> omega
      exact I1.fpOk hle (I1.hok.fresh hle)
    rcases q1 with ⟨xs, hq, q⟩ | ⟨xs, hq, q⟩
    · obtain ⟨its, rv, pl, hz⟩ := I1.list hq
      refine call_enumerate_list pl.isList fun h' he hit hsz hk => wpAny_pyIter_enum he ?_
      have I2 : Inv X pins σ H1 { s1 with heap := h' } := I1.kept (t' := s1.toks) hk
      exact ⟨s1.heap.objs.size + 1, [s1.heap.objs.size + 1, s1.heap.objs.size], _, _, H1, rfl, I2, turn_enum a (s1.heap.objs.size + 1) s1.heap.objs.size, ⟨⟨.none, he⟩, hit, Nat.succ_ne_self _⟩, fresh, q⟩
    · obtain ⟨its, rv, pt, hz⟩ := I1.tuple hq
      have pt' : s1.heap.IsTuple a its.toArray := pt
      have la : a < s1.heap.objs.size := let ⟨_, q, _⟩ := pt'; Heap.lt_size q
      refine enum_tuple pt' fun h' he hit hsz hk => wpAny_pyIter_enum he ?_
      have I2 : Inv X pins σ H1 { s1 with heap := h' } := I1.kept (t' := s1.toks) hk
      exact ⟨s1.heap.objs.size + 1, [s1.heap.objs.size + 1, s1.heap.objs.size], _, _, H1, rfl, I2, turn_enumT a (s1.heap.objs.size + 1) s1.heap.objs.size, ⟨⟨.none, he⟩, hit, Nat.succ_ne_self _, Nat.ne_of_lt la, Nat.ne_of_gt (Nat.lt_succ_of_lt la)⟩, fresh, q⟩
end DL

set_option Elab.async false
set_option linter.all false
set_option maxRecDepth 100000
set_option maxHeartbeats 4000000
/-! DL19: += of any kind, enumerate, zip, index, over data. -/
namespace DL
open PySem PySem.Spec PyProof.Rows L2

/-! ### += -/
theorem noI_tuple_add : typeLookup (.type "tuple") (dunderI "add") = pure none := by rw [typeLookup_type, builtinLookup_eq_fast]; kernel_rfl
section
variable {X : Cx}
theorem iop_catA : OpR X (inplaceOp .Add) (rCatA X.K) := by
  intro pins s st H x y v u Q I rx ry h
  obtain ⟨a, b, xs, ys, rfl, rfl, ha, hb, hz, q0, q1, q2⟩ := h
  cases rx
  cases ry
  obtain ⟨its, r1, p1, _⟩ := I.tuple ha
  obtain ⟨its2, r2, p2, _⟩ := I.tuple hb
  obtain ⟨⟨cls, dd, data, sl⟩, ho, hc, n, hd⟩ := id p1
  obtain ⟨⟨cls2, dd2, data2, sl2⟩, ho2, hc2, n2, hd2⟩ := id p2
  simp only at hc hd hc2 hd2
  subst hc hd hc2 hd2
  have ta : s.TypeIs (.ref a) "tuple" := ⟨_, ho, rfl⟩
  have tb : s.TypeIs (.ref b) "tuple" := ⟨_, ho2, rfl⟩
  refine inplaceOp_concat ta tb noI_tuple_add noFill_tuple_add seq_tuple_add ?_
  by_cases hx : xs = []
  · have e1 : its = [] := r1.nil_iff.mpr hx
    subst e1
    exact call_meets PySem.F.slot_tuple_add ta PySem.F.entry_tuple_add (PySem.F.args_tuple_add_2 _ _) (tuple_addW0 a b ([] : List Value).toArray its2.toArray n n2 dd dd2 sl sl2 (by simp)) ⟨ho, ho2, ⟨.ref b, H, I, rfl, q0 hx⟩⟩
  · have e1 : its ≠ [] := fun z => hx (r1.nil_iff.mp z)
    by_cases hy : ys = []
    · have e2 : its2 = [] := r2.nil_iff.mpr hy
      exact call_meets PySem.F.slot_tuple_add ta PySem.F.entry_tuple_add (PySem.F.args_tuple_add_2 _ _) (tuple_addW1 a b its.toArray its2.toArray n n2 dd dd2 sl sl2 (by simpa using e1) (by simp [e2])) ⟨ho, ho2, ⟨.ref a, H, I, rfl, q1 hx hy⟩⟩
    · have e2 : its2 ≠ [] := fun z => hy (r2.nil_iff.mp z)
      have ea : its.toArray ++ its2.toArray = (its ++ its2).toArray := by simp
      have hz' : its.length + its2.length ≤ sizeLine := by rw [← r1.length, ← r2.length]; exact hz
      refine call_meets PySem.F.slot_tuple_add ta PySem.F.entry_tuple_add (PySem.F.args_tuple_add_2 _ _) (tuple_addW2 a b its.toArray its2.toArray n n2 dd dd2 sl sl2 (by simpa using e1) (by simpa using e2) (by rw [List.size_toArray, List.size_toArray]; exact hz')) ⟨ho, ho2, ?_⟩
      rw [ea]
      refine ⟨.ref s.heap.objs.size, _, I.laid (t' := s.toks) (o := .tup (xs ++ ys)) (fun b ob q => Heap.get?_push_of_some _ q) (Nat.le_refl _) ?_, rfl, q2 hx hy _ (I.hok.fresh (Nat.le_refl _))⟩
      exact ⟨by rw [List.length_append]; exact hz, _, r1.append r2, IsTup.new _ _⟩
end
def vIAdd : R2D := fun x y S k => match x, y with
  | .d (.int i), .d (.int j) => k (.d (.int (i + j))) S
  | .d (.str i), .d (.str j) => i.length + j.length ≤ 1000000 ∧ k (.d (.str (i ++ j))) S
  | .d (.tuple xs), .d (.tuple ys) => xs.length + ys.length ≤ 1000000 ∧ k (.d (.tuple (xs ++ ys))) S
  | _, _ => False
def rIAdd (K : PySem.W.Frag) : R2 := fun x y H Q => (rI0 fun i j => .int (i + j)) x y H Q ∨ (∃ i j, x = .str i ∧ y = .str j ∧ i.length + j.length ≤ sizeLine ∧ Q (.str (i ++ j)) H) ∨ rCatA K x y H Q
theorem iop_any {X : Cx} : OpR X (inplaceOp .Add) (rIAdd X.K) := OpR.or3 iop_add iop_add_str iop_catA
theorem la_any {K : PySem.W.Frag} : Lift2 K (rIAdd K) vIAdd := by
  intro H x y Q m S wx wy k r vx vy h q
  unfold vIAdd at h
  split at h
  · exact .inl ⟨_, _, int_inv vx, int_inv vy, q _ _ (Post.here r (.d (.int _)) h)⟩
  · exact .inr (.inl ⟨_, _, str_inv vx, str_inv vy, line6 h.1, q _ _ (Post.here r (.d (.str _)) h.2)⟩)
  · refine .inr (.inr ?_)
    cases vx with
    | d vx =>
      cases vy with
      | d vy =>
        obtain ⟨a, us, rfl, s1, d1⟩ := vx.tup_inv
        obtain ⟨b, vs, rfl, s2, d2⟩ := vy.tup_inv
        refine ⟨a, b, us, vs, rfl, rfl, s1, s2, ?_, fun e => ?_, fun _ e => ?_, fun _ _ p hp => ?_⟩
        · rw [d1.length, d2.length]
          exact line6 h.1
        · subst e
          cases d1
          exact q _ _ (Post.here r (.d vy) (by simpa using h.2))
        · subst e
          cases d2
          exact q _ _ (Post.here r (.d vx) (by simpa using h.2))
        · exact post_tup r (d1.append d2) h.2 q p hp
  · exact h.elim
section
variable {S : Sto} {k : KE} {a b : Int} {xs ys : List PyData} {x y : Str}
instance : Stp (vIAdd (.d (.int a)) (.d (.int b)) S k) (k (.d (.int (a + b))) S) := ⟨id⟩
instance : Stc (vIAdd (.d (.tuple xs)) (.d (.tuple ys)) S k) (xs.length + ys.length ≤ 1000000) (k (.d (.tuple (xs ++ ys))) S) := ⟨fun c h => ⟨c, h⟩⟩
instance : Stc (vIAdd (.d (.str x)) (.d (.str y)) S k) (x.length + y.length ≤ 1000000) (k (.d (.str (x ++ y))) S) := ⟨fun c h => ⟨c, h⟩⟩
end

/-! ### enumerate -/
def enP (i : Nat) (x : PyData) : PyData := .tuple [.int (i : Nat), x]
def enL (xs : List PyData) : List Val := xs.mapIdx fun i x => .d (enP i x)
theorem enL_get {xs : List PyData} {i : Nat} : (enL xs)[i]? = (xs[i]?).map fun x => Val.d (enP i x) := by
  unfold enL
  rw [List.getElem?_mapIdx]
/-- a list or a tuple that is walked, its items data -/
def wlk (w : Val) (S : Sto) (R : List PyData → (Sto → Prop) → Prop) : Prop := match w with
  | .d (.list xs) => R xs (fun _ => True)
  | .d (.tuple xs) => R xs (fun _ => True)
  | .r i => match S[i]? with
    | some (.lst ws) => match dats ws with
      | some xs => R xs (fun S => S[i]? = some (.lst ws))
      | none => False
    | _ => False
  | _ => False
def vEnum (w : Val) (S : Sto) (k : KI) : Prop := wlk w S fun xs ok => k (enL xs) ok S
def wEnum (F : WE) : WI := fun W en S k => F W en S fun w S1 => vEnum w S1 k
section
variable {K : PySem.W.Frag}
theorem ite_ok {m : Ids} {H : Hp} {a : Addr} {xs : List PyData} {ok : Sto → Prop} (h : ∀ (m1 : Ids) (H1 : Hp) (S1 : Sto), Exo m H m1 H1 → Rel K m1 H1 S1 → ok S1 → ∃ vs, SqL K H1 a vs ∧ RDs K m1 H1 vs xs) : ItOk K m H (Ite K a) (enL xs) ok := by
  intro m1 H1 S1 e r o i
  obtain ⟨vs, h1, h2⟩ := h m1 H1 S1 e r o
  refine ⟨fun w hw => ?_, fun hl => ⟨vs, h1, by
    have : (enL xs).length = xs.length := by simp [enL]
    rw [h2.length]
    omega⟩⟩
  rw [enL_get] at hw
  cases ex : xs[i]? with
  | none => rw [ex] at hw; cases hw
  | some x =>
    rw [ex] at hw
    cases hw
    obtain ⟨v, g1, g2⟩ := h2.get ex
    refine ⟨⟨vs, v, h1, g1⟩, fun y H2 q => ?_⟩
    obtain ⟨T, v', rfl, hT, rfl, q⟩ := q
    have q := q vs h1
    rw [g1] at q
    cases q
    have E2 : Ext m1 H1 m1 (upd H1 T (.tup [.int (i : Nat), v])) := Ext.new hT
    exact ⟨m1, rfl, E2, r.fresh hT, .d (.tup (.inl ⟨.inl upd_same, r.newF hT⟩) (.cons (.int _) (.cons (g2.mono E2) .nil)))⟩
theorem itet_ok {m : Ids} {H : Hp} {a : Addr} {xs : List PyData} {ok : Sto → Prop} (h : ∀ (m1 : Ids) (H1 : Hp) (S1 : Sto), Exo m H m1 H1 → Rel K m1 H1 S1 → ok S1 → ∃ vs, SqT K H1 a vs ∧ RDs K m1 H1 vs xs) : ItOk K m H (ItET K a) (enL xs) ok := by
  intro m1 H1 S1 e r o i
  obtain ⟨vs, h1, h2⟩ := h m1 H1 S1 e r o
  refine ⟨fun w hw => ?_, fun hl => ⟨vs, h1, by
    have : (enL xs).length = xs.length := by simp [enL]
    rw [h2.length]
    omega⟩⟩
  rw [enL_get] at hw
  cases ex : xs[i]? with
  | none => rw [ex] at hw; cases hw
  | some x =>
    rw [ex] at hw
    cases hw
    obtain ⟨v, g1, g2⟩ := h2.get ex
    refine ⟨⟨vs, v, h1, g1⟩, fun y H2 q => ?_⟩
    obtain ⟨T, v', rfl, hT, rfl, q⟩ := q
    have q := q vs h1
    rw [g1] at q
    cases q
    have E2 : Ext m1 H1 m1 (upd H1 T (.tup [.int (i : Nat), v])) := Ext.new hT
    exact ⟨m1, rfl, E2, r.fresh hT, .d (.tup (.inl ⟨.inl upd_same, r.newF hT⟩) (.cons (.int _) (.cons (g2.mono E2) .nil)))⟩
theorem walked {m : Ids} {H : Hp} {S : Sto} {x : V} {w : Val} {R : List PyData → (Sto → Prop) → Prop} (r : Rel K m H S) (v : RV K m H x w) (h : wlk w S R) :
    ∃ a xs ok, x = .ref a ∧ ok S ∧ R xs ok ∧ ((∃ vs, SqL K H a vs ∧ ∀ (m1 : Ids) (H1 : Hp) (S1 : Sto), Exo m H m1 H1 → Rel K m1 H1 S1 → ok S1 → ∃ vs, SqL K H1 a vs ∧ RDs K m1 H1 vs xs) ∨
      (∃ vs, SqT K H a vs) ∧ ∀ (m1 : Ids) (H1 : Hp) (S1 : Sto), Exo m H m1 H1 → Rel K m1 H1 S1 → ok S1 → ∃ vs, SqT K H1 a vs ∧ RDs K m1 H1 vs xs) := by
  unfold wlk at h
  split at h
  · rename_i xs
    cases v with
    | d v =>
      cases v with
      | lst h1 h2 h3 => exact ⟨_, xs, _, rfl, True.intro, h, .inl ⟨_, SqL.of h1, fun m1 H1 S1 e r o => ⟨_, SqL.of (e.keep _ _ h1 h2).1, RDs.mox e h3⟩⟩⟩
  · rename_i xs
    cases v with
    | d v =>
      obtain ⟨a, vs, rfl, h1, h2⟩ : ∃ a vs, x = .ref a ∧ ((Rd H a (.tup vs) ∧ Fr m a) ∨ SqT K noH a vs) ∧ RDs K m H vs xs := by
        cases v with
        | tup h1 h2 => exact ⟨_, _, rfl, h1, h2⟩
      refine ⟨a, xs, _, rfl, True.intro, h, .inr ⟨⟨vs, sqT_of h1⟩, fun m1 H1 S1 e r o => ⟨vs, ?_, RDs.mox e h2⟩⟩⟩
      rcases h1 with h1 | h1
      · exact sqT_of (.inl (rd_exo e h1.1 h1.2))
      · exact sqT_of (m := m) (.inr h1)
  · rename_i i
    split at h
    · rename_i ws ew
      split at h
      · rename_i xs ex
        obtain ⟨a, e, hm, vs, h1, h2⟩ := v.obj r ew (by intro z; cases z)
        refine ⟨a, xs, _, e, ew, h, .inl ⟨vs, SqL.of h1, fun m1 H1 S1 e r o => ?_⟩⟩
        rcases e.ids i _ hm with h3 | h3
        · obtain ⟨vs1, g1, g2⟩ := r.ob i _ _ h3 o
          exact ⟨vs1, SqL.of g1, dats_rel g2 ex⟩
        · have q := r.dd i h3
          rw [o] at q
          cases q
      · exact h.elim
    · exact h.elim
  · exact h.elim
end
section
variable {X : Cx} {e e2 : Expr} {F F2 : WE} {p pos tpos : Pos} {elts : List Expr} {kk : Nat}
theorem di_enum (hg : Gl X "enumerate") (hm : X.mg "enumerate" = none) (he : DE X e F) (hs : starEach [e] X.env = [(false, eval e X.env)] := by rfl) : DI X (.Tuple elts kk tpos) (.Call (.Name "enumerate" p) [e] [] pos) (wEnum F) := by
  refine ⟨fun B W tk => ⟨fun pins s st H R I ⟨m, en, S, k, g, f, q⟩ => (pi_enumA hg hm (pa_cons (he.go B W tk) pa_nil hs) hs).run pins s st H R I ?_⟩⟩
  refine ⟨m, en, S, _, g, f, fun x H1 p1 => ?_⟩
  obtain ⟨m1, S1, w1, e1, r1, v1, h1⟩ := p1
  obtain ⟨a, xs, ok, rfl, o, hk, z⟩ := walked r1 v1 h1
  refine ⟨a, rfl, ?_⟩
  rcases z with ⟨vs, h2, h3⟩ | ⟨⟨vs, h2⟩, h3⟩
  · exact .inl ⟨vs, h2, q _ _ ⟨m1, S1, _, ok, e1, r1, ite_ok h3, hk⟩⟩
  · exact .inr ⟨vs, h2, q _ _ ⟨m1, S1, _, ok, e1, r1, itet_ok h3, hk⟩⟩
end
section
variable {S : Sto} {ki : KI} {xs : List PyData} {ws : List Val} {i : Nat} {Fa : WE} {W : XQ} {en : Env}
instance : Stp (wEnum Fa W en S ki) (Fa W en S fun w S1 => vEnum w S1 ki) := ⟨id⟩
instance : Stp (vEnum (.d (.list xs)) S ki) (ki (enL xs) (fun _ => True) S) := ⟨id⟩
instance : Stp (vEnum (.d (.tuple xs)) S ki) (ki (enL xs) (fun _ => True) S) := ⟨id⟩
instance [p : StG S i (.lst ws)] [q : Dat ws xs] : Stp (vEnum (.r i) S ki) (ki (enL xs) (fun S => S[i]? = some (.lst ws)) S) := ⟨fun h => by
  unfold vEnum wlk
  simp only [p.eq, q.eq]
  exact h⟩
end
/-- a for over enumerate -/
theorem turns_enum {t : Tg} {body : WS} {ok : Sto → Prop} {W : XQ} {dn : DN} (xs : List PyData) (I : Nat → Env → Sto → Prop) (hok : ∀ i en S, I i en S → ok S)
    (step : ∀ (i : Nat) x en S, xs[i]? = some x → I i en S → ∃ en', t.w (.d (.tuple [.int (i : Nat), x])) en = some en' ∧ ∀ nx : Pt, (∀ en S, I (i + 1) en S → nx en S) → body W ⟨nx, dn.rt, dn.nx, nx⟩ en' S)
    (fin : ∀ en S, I xs.length en S → dn.nx en S) {en : Env} {S : Sto} (h0 : I 0 en S) : wTurns t body ok W dn (enL xs) en S := by
  have ee : enL xs = ((List.range xs.length).map fun i => Val.d (.tuple [.int (i : Nat), xs.getD i .none])) := by
    refine List.ext_getElem? fun i => ?_
    rw [enL_get, List.getElem?_map]
    by_cases hi : i < xs.length
    · rw [List.getElem?_range hi, List.getElem?_eq_getElem hi]
      simp [enP, List.getD, List.getElem?_eq_getElem hi]
    · rw [List.getElem?_eq_none (by omega), List.getElem?_eq_none (by simp; omega)]
      rfl
  rw [ee]
  refine turns_inv (fun i : Nat => Val.d (.tuple [.int (i : Nat), xs.getD i .none])) (List.range xs.length) (fun l en S => l = List.range l.length ∧ l.length ≤ xs.length ∧ I l.length en S) (fun l en S h => hok _ _ _ h.2.2) ?_ (fun en S h => fin _ _ (by simpa using h.2.2)) ⟨rfl, Nat.zero_le _, h0⟩
  rintro l x r en S e ⟨e1, e2, h⟩
  have hx : x = l.length ∧ l.length < xs.length := by
    have z1 : (List.range xs.length)[l.length]? = some x := by rw [e]; simp
    have z2 := (List.getElem?_eq_some_iff.mp z1).1
    rw [List.length_range] at z2
    rw [List.getElem?_range z2] at z1
    exact ⟨(Option.some.inj z1).symm, z2⟩
  obtain ⟨rfl, h2⟩ := hx
  obtain ⟨en', e3, h3⟩ := step l.length xs[l.length] en S (List.getElem?_eq_getElem h2) h
  refine ⟨en', ?_, fun nx hn => h3 nx fun en S h4 => hn en S ⟨?_, by simp; omega, by simpa using h4⟩⟩
  · rw [← e3]
    simp [List.getD, List.getElem?_eq_getElem h2]
  · rw [List.length_append, List.length_singleton, List.range_succ, ← e1]
end DL

set_option Elab.async false
set_option linter.all false
set_option maxRecDepth 100000
set_option maxHeartbeats 4000000
/-! DL20: the module's constants, index, the errors' facts, recursion's ground. -/
namespace DL
open PySem PySem.Spec PyProof.Rows L2

/-! ### constants of the module -/
structure GN (K : PySem.W.Frag) (mg : Str → Option Value) (x : Str) (d : PyData) : Prop where
  ex : ∃ u, mg x = some u ∧ GC K u d
theorem de_gn {X : Cx} {x : Str} {d : PyData} {pos : Pos} (g : GN X.K X.mg x d) (hg : Gl X x := by rfl) (hd : (x == ("__debug__" : Str)) = false := by decide) : DE X (.Name x pos) (wC d) := by
  obtain ⟨u, h1, h2⟩ := g.ex
  exact de_glob hg h1 h2 hd
theorem gn_int {K : PySem.W.Frag} {mg : Str → Option Value} {x : Str} {i : Int} {t : Tok} (h : mg x = some (.int i t)) : GN K mg x (.int i) := ⟨_, h, gc_int⟩
theorem gn_str {K : PySem.W.Frag} {mg : Str → Option Value} {x : Str} {i : Str} {t : Tok} (h : mg x = some (.str i t)) : GN K mg x (.str i) := ⟨_, h, gc_str⟩
/-- a written value of flat items -/
inductive FlatV : Value → PyData → Prop
  | int (i : Int) (t : Tok) : FlatV (.int i t) (.int i)
  | str (x : Str) (t : Tok) : FlatV (.str x t) (.str x)
inductive FlatVs : List Value → List PyData → Prop
  | nil : FlatVs [] []
  | cons {v : Value} {d : PyData} {vs : List Value} {ds : List PyData} : FlatV v d → FlatVs vs ds → FlatVs (v :: vs) (d :: ds)
theorem FlatVs.run {K : PySem.W.Frag} : ∀ {vs : List Value} {ds : List PyData}, FlatVs vs ds → ∃ xs : List V, Vals xs vs ∧ ∀ m H, RDs K m H xs ds
  | _, _, .nil => ⟨[], .nil, fun _ _ => .nil⟩
  | _, _, .cons h t => by
    obtain ⟨xs, h1, h2⟩ := t.run (K := K)
    cases h with
    | int i t => exact ⟨.int i :: xs, .cons ⟨t, rfl⟩ h1, fun m H => .cons (.int i) (h2 m H)⟩
    | str x t => exact ⟨.str x :: xs, .cons ⟨t, rfl⟩ h1, fun m H => .cons (.str x) (h2 m H)⟩
theorem gn_tup {K : PySem.W.Frag} {mg : Str → Option Value} {x : Str} {a : Addr} {dd : Option Addr} {sl : Array (Option Value)} {n : Nat} {vs : List Value} {ds : List PyData} (h : mg x = some (.ref a)) (l : K.lookup a = some ⟨.type "tuple", dd, .seq vs.toArray n, sl⟩) (f : FlatVs vs ds) (hz : vs.length ≤ 1000000 := by decide) : GN K mg x (.tuple ds) := by
  obtain ⟨xs, h1, h2⟩ := f.run (K := K)
  refine ⟨.ref a, h, .ref a, rfl, fun m H => .tup (.inr (.inr ⟨_, vs.toArray, n, l, rfl, rfl, ?_, ?_⟩)) (h2 m H)⟩
  · simpa using line6 hz
  · simpa using h1

/-! ### index -/
def vIndex : RMD := fun x ws S k => match ws with
  | [.d y] => match lsrW S x with
    | some vs => match dats vs with
      | some xs => flatD y = true ∧ xs.all flatD = true ∧ match xs.findIdx? (fun z => PyData.eqv z y) with
        | some j => k (.d (.int (j : Nat))) S
        | none => False
      | none => False
    | none => False
  | _ => False
theorem lift_index {K : PySem.W.Frag} : LiftM K (rIndex K) vIndex := by
  intro H x xs Q m S w ws k r v vs h q
  unfold vIndex at h
  split at h
  · rename_i y
    split at h
    · rename_i us eu
      split at h
      · rename_i ds ed
        obtain ⟨f1, f2, h⟩ := h
        split at h
        · rename_i j ej
          match xs, vs with
          | [vy], .cons (.d vy') .nil =>
            obtain ⟨a, zs, rfl, s1, d1⟩ := lsrW_rel r v eu
            have d2 := dats_rel d1 ed
            obtain ⟨hj, hz, hno⟩ := List.findIdx?_eq_some_iff_getElem.mp ej
            obtain ⟨z, g1, g2⟩ := d2.get (List.getElem?_eq_getElem hj)
            have fl : ∀ {i : Nat} (hi : i < ds.length), flatD ds[i] = true := fun {i} hi => List.all_eq_true.mp f2 _ (List.getElem_mem hi)
            refine ⟨a, zs, _, j, z, rfl, rfl, s1, by rw [flat_rel vy']; exact f1, by rw [flats_rel d2]; exact f2, g1, ?_, fun i z' hi hz' => ?_, q _ _ (Post.here r (.d (.int _)) h)⟩
            · rw [eqv_rel g2 vy' (fl hj) f1]
              exact hz
            · obtain ⟨z2, g3, g4⟩ := d2.get (List.getElem?_eq_getElem (Nat.lt_trans hi hj))
              rw [hz'] at g3
              cases g3
              rw [eqv_rel g4 vy' (fl (Nat.lt_trans hi hj)) f1]
              simpa using hno i hi
        all_goals exact h.elim
      all_goals exact h.elim
    all_goals exact h.elim
  all_goals exact h.elim
section
variable {X : Cx} {o e : Expr} {es : List Expr} {F : WE} {G : WA} {apos cpos : Pos}
theorem de_index (ho : DE X o F) (ha : DA X (e :: es) G) (hbase : attributeBase o "index" X.env (eval o X.env) = eval o X.env := by rfl)
    (hfew : ((backTo cpos (starEach (e :: es) X.env)).all (fun x => !x.1) && (backToKw cpos (keywordEach [] X.env)).all (fun x => x.1.isSome)
      && decide ((e :: es).length + ([] : List Keyword).length + (if ([] : List Keyword).isEmpty then 0 else 1) < 30)) = true := by rfl)
    (hline : (apos.endLine == cpos.line) = true := by rfl) (hs : starEach (e :: es) X.env = (false, eval e X.env) :: starEach es X.env := by rfl) (hplain : (backTo cpos (starEach es X.env)).any (·.1) = false := by rfl) :
    DE X (.Call (.Attribute o "index" apos) (e :: es) [] cpos) (wBM "list" vIndex F G) :=
  de_tBM (fun ta t h1 h2 => pe_bm PySem.F.plainAttrs_list PySem.F.slot_list_index PySem.F.type_list_index mt_index h1 h2 hbase hfew hline hs hplain) lift_index ho ha
end
theorem v_indexI {S : Sto} {k : KE} {w : Val} {ns : List Int} {a : Int} {j : Nat} (e : lsrW S w = some ((ns.map PyData.int).map Val.d)) (ej : ns.findIdx? (fun n => decide (n = a)) = some j) (h : k (.d (.int (j : Nat))) S) : vIndex w [.d (.int a)] S k := by
  unfold vIndex
  simp only [e, dats_map]
  refine ⟨rfl, flat_ints ns, ?_⟩
  have : (ns.map PyData.int).findIdx? (fun z => PyData.eqv z (.int a)) = some j := by
    rw [List.findIdx?_map, ← ej]
    congr 1
  rw [this]
  exact h

/-! ### the errors' facts, checked -/
def xcB (K : PySem.W.Frag) (R fI : Addr) (x : Str) (C : Addr) : Bool := (match K.lookup C with
  | some ⟨.type T, _, .cls cd, sl⟩ => T == "type" && decide (cd.name = x) && cd.hasDict && !cd.hasDel && (match sl.toList with
    | [_, _, _, _, some (.builtin n), _] => n == "ValueError.__new__"
    | _ => false) && ((cd.mro == .ref C :: .ref R :: PySem.HandSPX.veTail && C != R) || (decide (x = "Refused") && C == R && cd.mro == .ref C :: PySem.HandSPX.veTail))
  | _ => false) && decide (PySem.W.findIn K (.ref C) "__setattr__" = some (some (.builtin "object.__setattr__"))) && decide (PySem.W.findIn K (.ref C) "__getattribute__" = some (some (.builtin "BaseException.__getattribute__")))
  && decide (PySem.W.findIn K (.ref C) "__getattr__" = some none) && decide (PySem.W.findIn K (.ref C) "what" = some none) && decide (PySem.W.findIn K (.ref C) "__init__" = some (some (.ref fI))) && PySem.W.keepIn K (.ref C)
theorem xc_of {K : PySem.W.Frag} {mg : Str → Option Value} {R fI C : Addr} {x : Str} (hm : mg x = some (.ref C)) (h : xcB K R fI x C = true) : XC K mg R fI x C := by
  unfold xcB at h
  simp only [Bool.and_eq_true, decide_eq_true_eq] at h
  obtain ⟨⟨⟨⟨⟨⟨h0, h1⟩, h2⟩, h3⟩, h4⟩, h5⟩, h6⟩ := h
  refine ⟨hm, ?_, h1, h2, h3, h4, h5, h6⟩
  split at h0
  · rename_i T dd cd sl e
    simp only [Bool.and_eq_true, decide_eq_true_eq] at h0
    obtain ⟨⟨⟨⟨⟨h0, a1⟩, a2⟩, a3⟩, a4⟩, a5⟩ := h0
    have h0 : T = "type" := by simpa using h0
    subst h0
    split at a4
    · rename_i k0 k1 k2 k3 n k5 esl
      have a4 : n = "ValueError.__new__" := by simpa using a4
      subst a4
      obtain ⟨nm, bs, mro, ns, qn, hd, sn, sb, ab, col, del⟩ := cd
      dsimp only at a1 a2 a3 a5
      subst a1
      have a3 : del = false := by simpa using a3
      subst a3
      subst a2
      have es : sl = #[k0, k1, k2, k3, some (.builtin "ValueError.__new__"), k5] := by
        cases sl
        simpa using esl
      subst es
      rw [Bool.or_eq_true] at a5
      rcases a5 with a5 | a5
      · obtain ⟨b1, b2⟩ := Bool.and_eq_true_iff.mp a5
        have b1 := eq_of_beq b1
        subst b1
        exact ⟨qn, ns, bs, _, sn, sb, ab, col, dd, k0, k1, k2, k3, k5, e, .inl ⟨rfl, by simpa using b2⟩⟩
      · simp only [Bool.and_eq_true, decide_eq_true_eq] at a5
        obtain ⟨⟨b1, b2⟩, b3⟩ := a5
        have b3 := eq_of_beq b3
        subst b3
        exact ⟨qn, ns, bs, _, sn, sb, ab, col, dd, k0, k1, k2, k3, k5, e, .inr ⟨b1, by simpa using b2, rfl⟩⟩
    · cases a4
  · cases h0
theorem errs_mk {P : Program} {w : World} {K : PySem.W.Frag} {mg : Str → Option Value} {R fI : Addr} {fd : FuncData} {l : List (Str × Addr)} (F : RefF P w K mg R fI fd) (hb : Binds K fd ["self", "what"] []) (ht : PySem.W.typeIn K (.ref fI) = some (.type "function"))
    (hR : (("Refused" : Str), R) ∈ l) (hm : ∀ p ∈ l, mg p.1 = some (.ref p.2)) (hx : l.all (fun p => xcB K R fI p.1 p.2) = true) : Errs P w K mg (l.map (·.1)) := by
  have all := List.all_eq_true.mp hx
  refine ⟨R, fI, fd, F, hb, ht, xc_of (hm _ hR) (all _ hR), fun x h => ?_⟩
  obtain ⟨p, hp, rfl⟩ := List.mem_map.mp h
  exact ⟨p.2, xc_of (hm p hp) (all p hp)⟩

/-! ### a def that is never asked at depth 0 -/
theorem own_void {P : Program} {w : World} {K : PySem.W.Frag} {mg : Str → Option Value} {base : Heap} {x : Str} {st : Stmt} {ps : List Str} {k : Nat} {sp : Spec} (F : Dfn K mg x st ps) (h : ∀ g ws S, ¬ sp.pre g ws S) : Own P w K mg base k x sp := by
  obtain ⟨f, fd, h1, h2, h3⟩ := F.ex
  have no : ∀ {vs H Q E}, ¬ liftSp K mg sp vs H Q E := fun {vs H Q E} q => by
    obtain ⟨_, m, ws, S, g, _, _, hp, _⟩ := q
    exact h g ws S hp
  exact ⟨f, fd, ps, ⟨fun vs H Q E q => (no q).elim, fun A outer s H args us vs Q E hr he hb r q => (no q).elim⟩, h2, h1.kp, h3⟩
end DL

set_option Elab.async false
set_option linter.all false
set_option maxRecDepth 100000
set_option maxHeartbeats 4000000
/-! DL21: promises, cuts, first and last places. -/
namespace DL
open PySem PySem.Spec PyProof.Rows L2

theorem keeps_gen {N : List Str} {n : Nat} {γ : Type} {args : γ → List PyData} {ok : γ → Prop} {R : γ → PyData → Prop} {G : WS}
    (h : ∀ (W : XQ) (dn : DN) (g : γ) (a b : Int), ok g → 0 ≤ a → 0 ≤ b → b < 2147483647 → (∀ d o T, R g d → Src o → dn.rt (.d d) (o :: T)) → G W dn (startE N (.r 0 :: (args g).map Val.d)) [.lst [.d (.int a), .d (.int b)]]) : Keeps N (genSp n γ args ok R) G := by
  rintro g ws S hl ⟨rfl, ⟨o, rfl, a, b, rfl, h1, h2, h3⟩, hok⟩
  refine h _ _ g a b hok h1 h2 h3 fun d o T hR ho => ?_
  refine ⟨⟨?_, True.intro⟩, ⟨d, rfl, hR⟩, o, rfl, ho⟩
  show ((o :: T).take 1).all obPure = true
  simp [src_pure ho]
theorem src_mk {a b : Int} (h1 : 0 ≤ a) (h2 : 0 ≤ b) (h3 : b < 2147483647) : Src (.lst [.d (.int a), .d (.int b)]) := ⟨a, b, rfl, h1, h2, h3⟩
abbrev scr (ns : List Int) : Val := .s (ns.map PyData.int)
/-- data alone: an answer or an error -/
def rsp (n : Nat) (γ : Type) (args : γ → List PyData) (ok : γ → Prop) (f : γ → Except Exc PyData) : Spec := ⟨n, γ, fun g ws S => ws = (args g).map Val.d ∧ S = [] ∧ ok g, fun g w S => (∃ d, f g = .ok d ∧ w = .d d) ∧ S = [], fun g x S => f g = .error x ∧ S = [], 0⟩
section
variable {N : List Str} {n : Nat} {γ : Type} {args : γ → List PyData} {ok : γ → Prop} {f : γ → Except Exc PyData} {G : WS} {S : Sto} {k : KE} {kx : Exc → Sto → Prop}
theorem keeps_rsp (h : ∀ (W : XQ) (dn : DN) (g : γ), ok g → (∀ d S, f g = .ok d → dn.rt (.d d) S) → (f g = .ok .none → ∀ en S, dn.nx en S) → (∀ x en S, f g = .error x → W x en S) → G W dn (startE N ((args g).map Val.d)) []) : Keeps N (rsp n γ args ok f) G := by
  rintro g ws S hl ⟨rfl, rfl, hok⟩
  exact h _ _ g hok (fun d S e => ⟨⟨rfl, True.intro⟩, ⟨d, e, rfl⟩, rfl⟩) (fun e en S => ⟨⟨rfl, True.intro⟩, ⟨_, e, rfl⟩, rfl⟩) fun x en S e => ⟨rfl, e, rfl⟩
theorem call_rsp (g : γ) (hn : (args g).length = n) (h : ok g) (q : ∀ d, f g = .ok d → k (.d d) S) (qx : ∀ x, f g = .error x → kx x S) : callF (rsp n γ args ok f) ((args g).map Val.d) S k kx := by
  refine ⟨by rw [List.length_map]; exact hn, ?_⟩
  rw [refsOf_d]
  refine ⟨g, ⟨ren_d _ _, rfl, h⟩, ?_, ?_⟩
  · rintro w T' ⟨⟨d, e, rfl⟩, rfl⟩
    refine ⟨Nat.le_refl _, rfl, ?_⟩
    rw [back_nil]
    exact q d e
  · rintro x T' ⟨e, rfl⟩
    refine ⟨Nat.le_refl _, rfl, ?_⟩
    rw [back_nil]
    exact qx x e
end
/-! ### cuts -/
theorem cut_fromG {α : Type} (xs : List α) (n : Nat) : cut xs (some (n : Int)) none = xs.drop n := by
  unfold cut
  rw [HT.sIx_none, HT.sIx_nat]
  by_cases h : n ≤ xs.length
  · rw [Nat.min_eq_left h]
    rw [List.take_of_length_le]
    rw [List.length_drop]
    omega
  · rw [Nat.min_eq_right (by omega), List.drop_of_length_le (Nat.le_refl _), List.drop_of_length_le (by omega), List.take_nil]
theorem cut_toG {α : Type} (xs : List α) (n : Nat) : cut xs none (some (n : Int)) = xs.take n := by
  unfold cut
  rw [HT.sIx_none, HT.sIx_nat]
  rw [List.drop_zero, Nat.sub_zero]
  by_cases h : n ≤ xs.length
  · rw [Nat.min_eq_left h]
  · rw [Nat.min_eq_right (by omega), List.take_of_length_le (Nat.le_refl _), List.take_of_length_le (by omega)]
theorem cut_midG {α : Type} (xs : List α) (n m : Nat) : cut xs (some (n : Int)) (some (m : Int)) = (xs.drop n).take (m - n) := by
  unfold cut
  rw [HT.sIx_nat, HT.sIx_nat]
  by_cases h : n ≤ xs.length
  · rw [Nat.min_eq_left h]
    by_cases h2 : m ≤ xs.length
    · rw [Nat.min_eq_left h2]
    · rw [Nat.min_eq_right (by omega), List.take_of_length_le (by simp), List.take_of_length_le (by simp; omega)]
  · rw [List.drop_of_length_le (by omega), List.drop_of_length_le (by omega)]
    simp
theorem rev_ind {α : Type} {P : List α → Prop} (h0 : P []) (h1 : ∀ l x, P l → P (l ++ [x])) (l : List α) : P l := by
  have : ∀ n (l : List α), l.length = n → P l := by
    intro n
    induction n with
    | zero => intro l h; rw [List.length_eq_zero_iff.mp h]; exact h0
    | succ n ih =>
      intro l h
      have hne : l ≠ [] := by intro z; rw [z] at h; cases h
      rw [← List.dropLast_concat_getLast hne]
      exact h1 _ _ (ih _ (by rw [List.length_dropLast, h]; rfl))
  exact this _ l rfl
/-! ### the last place -/
section
variable {α : Type}
def lastAt (p : α → Bool) : List α → Nat
  | [] => 0
  | _ :: l => if l.any p = true then lastAt p l + 1 else 0
theorem lastAt_spec {p : α → Bool} : ∀ {l : List α}, l.any p = true → (∃ x, l[lastAt p l]? = some x ∧ p x = true) ∧ ∀ j x, l[j]? = some x → p x = true → j ≤ lastAt p l
  | [], h => by simp at h
  | x :: l, h => by
    unfold lastAt
    by_cases e : l.any p = true
    · rw [if_pos e]
      obtain ⟨⟨y, h1, h2⟩, h3⟩ := lastAt_spec e
      refine ⟨⟨y, by rw [List.getElem?_cons_succ]; exact h1, h2⟩, fun j z hj hz => ?_⟩
      cases j with
      | zero => exact Nat.zero_le _
      | succ j => exact Nat.succ_le_succ (h3 j z (by rw [List.getElem?_cons_succ] at hj; exact hj) hz)
    · rw [if_neg e]
      have hx : p x = true := by
        rw [List.any_cons] at h
        cases hp : p x with
        | true => rfl
        | false => rw [hp, Bool.false_or] at h; exact absurd h e
      refine ⟨⟨x, rfl, hx⟩, fun j z hj hz => ?_⟩
      cases j with
      | zero => exact Nat.le_refl _
      | succ j =>
        rw [List.getElem?_cons_succ] at hj
        exact absurd (List.any_eq_true.mpr ⟨z, List.mem_of_getElem? hj, hz⟩) e
theorem lastAt_lt {p : α → Bool} {l : List α} (h : l.any p = true) : lastAt p l < l.length := by
  obtain ⟨⟨x, h1, _⟩, _⟩ := lastAt_spec h
  exact (List.getElem?_eq_some_iff.mp h1).1
theorem lastAt_eq {p : α → Bool} {l : List α} {i : Nat} {x : α} (h1 : l[i]? = some x) (h2 : p x = true) (h3 : ∀ j y, l[j]? = some y → p y = true → j ≤ i) : lastAt p l = i := by
  obtain ⟨⟨y, g1, g2⟩, g3⟩ := lastAt_spec (p := p) (l := l) (List.any_eq_true.mpr ⟨x, List.mem_of_getElem? h1, h2⟩)
  exact Nat.le_antisymm (h3 _ y g1 g2) (g3 _ x h1 h2)
/-- the last, found from behind -/
theorem lastAt_rev {p : α → Bool} {l : List α} {j : Nat} (h : l.reverse.findIdx? p = some j) : j < l.length ∧ lastAt p l = l.length - 1 - j := by
  obtain ⟨h1, h2, h3⟩ := List.findIdx?_eq_some_iff_getElem.mp h
  rw [List.length_reverse] at h1
  have h2' := h2
  rw [List.getElem_reverse] at h2'
  refine ⟨h1, lastAt_eq (List.getElem?_eq_getElem (by omega)) h2' fun i y hi hy => ?_⟩
  have hi' := (List.getElem?_eq_some_iff.mp hi)
  obtain ⟨hil, hie⟩ := hi'
  refine Decidable.byContradiction fun z => ?_
  have h4 := h3 (l.length - 1 - i) (by omega)
  rw [List.getElem_reverse] at h4
  have e : l.length - 1 - (l.length - 1 - i) = i := by omega
  simp only [e] at h4
  rw [hie] at h4
  simp [hy] at h4
theorem find_some {p : α → Bool} {l : List α} (h : l.any p = true) : ∃ j, l.findIdx? p = some j := by
  cases e : l.findIdx? p with
  | some j => exact ⟨j, rfl⟩
  | none =>
    rw [List.findIdx?_eq_none_iff] at e
    obtain ⟨x, h1, h2⟩ := List.any_eq_true.mp h
    have := e x h1
    simp [h2] at this
theorem maxI_eq {l : List Int} {m : Int} (h1 : m ∈ l) (h2 : ∀ x ∈ l, x ≤ m) : maxI l = m := Int.le_antisymm (h2 _ (maxI_mem (List.ne_nil_of_mem h1))) (maxI_le h1)
/-- the last place as the greatest of all -/
theorem lastAt_max {p : α → Bool} {l : List α} {q : Nat → Bool} {n : Nat} {f : Nat → Int} {c : Int} (hn : n = l.length) (hq : ∀ i x, l[i]? = some x → q i = p x) (hf : ∀ i, f i = c + (i : Nat)) (h : l.any p = true) :
    ((List.range n).filter q).map f ≠ [] ∧ maxI (((List.range n).filter q).map f) = c + (lastAt p l : Nat) := by
  obtain ⟨⟨x, h1, h2⟩, h3⟩ := lastAt_spec h
  have mem : c + (lastAt p l : Nat) ∈ ((List.range n).filter q).map f := List.mem_map.mpr ⟨lastAt p l, List.mem_filter.mpr ⟨List.mem_range.mpr (by rw [hn]; exact lastAt_lt h), by rw [hq _ x h1]; exact h2⟩, hf _⟩
  refine ⟨List.ne_nil_of_mem mem, maxI_eq mem fun y hy => ?_⟩
  obtain ⟨i, hi, rfl⟩ := List.mem_map.mp hy
  obtain ⟨g1, g2⟩ := List.mem_filter.mp hi
  have g1 := List.mem_range.mp g1
  rw [hn] at g1
  have e := List.getElem?_eq_getElem g1
  rw [hq i _ e] at g2
  have := h3 i _ e g2
  rw [hf]
  omega
theorem any_max {f : α → Int} {l : List α} (h : l ≠ []) : (l.any fun x => decide (f x = maxI (l.map f))) = true := by
  obtain ⟨x, h1, h2⟩ := List.mem_map.mp (maxI_mem (l := l.map f) (by simpa using h))
  exact List.any_eq_true.mpr ⟨x, h1, by simp [h2]⟩
theorem any_min {f : α → Int} {l : List α} (h : l ≠ []) : (l.any fun x => decide (f x = minI (l.map f))) = true := by
  obtain ⟨x, h1, h2⟩ := List.mem_map.mp (minI_mem (l := l.map f) (by simpa using h))
  exact List.any_eq_true.mpr ⟨x, h1, by simp [h2]⟩
theorem lastAt_map {β : Type} (f : α → β) (p : β → Bool) : ∀ l : List α, lastAt p (l.map f) = lastAt (fun x => p (f x)) l
  | [] => rfl
  | x :: l => by
    rw [List.map_cons, lastAt, lastAt, lastAt_map f p l, List.any_map]
    rfl
end
end DL

set_option Elab.async false
set_option linter.all false
set_option maxRecDepth 100000
set_option maxHeartbeats 4000000
/-! DL22: steps of raise, try, while; a list or a tuple. -/
namespace DL
open PySem PySem.Spec PyProof.Rows L2
section
variable {W : XQ} {dn : DN} {nx bk ct : Pt} {rt : KE} {en : Env} {S : Sto} {k : KE} {kb : KB} {ka : KA} {ki : KI} {F : WS} {Fe : WE} {x y : Str} {e : Exc} {d : PyData} {hs : List HdW} {G : Exc → WS} {i : Nat} {f : Option Val → Env} {w : Val}
def raiseK (x : Str) (W : XQ) (en : Env) : KE := fun v S1 => match v with
  | .d y => W ⟨x, y⟩ en S1
  | _ => False
instance : Stp (wRaise x Fe W dn en S) (Fe W en S (raiseK x W en)) := ⟨id⟩
instance : Stp (raiseK x W en (.d d) S) (W ⟨x, d⟩ en S) := ⟨id⟩
instance : Stp (wTry F hs W dn en S) (F (catchW hs W dn) dn en S) := ⟨id⟩
instance : Stp (catchW [] W dn e en S) (W e en S) := ⟨id⟩
instance : Stp (catchW ((y, none, G) :: hs) W dn e en S) (if caught e.name y = true then G e noX dn en S else catchW hs W dn e en S) := ⟨id⟩
instance [p : Put en i f] : Stp (catchW ((y, some i, G) :: hs) W dn e en S) (if caught e.name y = true then G e noX (unD dn i) (f none) S else catchW hs W dn e en S) := ⟨fun h => by
  have e2 : en.set i none = f none := p.eq none
  show if caught e.name y = true then G e noX (unD dn i) (en.set i none) S else catchW hs W dn e en S
  rw [e2]
  exact h⟩
instance : Stp ((unD dn i).rt w S) (dn.rt w S) := ⟨id⟩
instance [p : Put en i f] : Stp ((unD dn i).nx en S) (dn.nx (f none) S) := ⟨fun h => by
  show dn.nx (en.set i none) S
  rw [p.eq]
  exact h⟩
instance {A B : Prop} {d : Decidable True} : Stp (@ite Prop True d A B) A := ⟨fun h => by rw [if_pos trivial]; exact h⟩
instance {A B : Prop} {d : Decidable False} : Stp (@ite Prop False d A B) B := ⟨fun h => by rw [if_neg (fun z => z)]; exact h⟩
theorem i_while {T : WT} {body : WS} (P : Nat → Env → Sto → Prop) (step : ∀ n en S, P n en S → T W en S fun b S1 => if b = true then body W ⟨fun e s => ∃ n', n' < n ∧ P n' e s, dn.rt, dn.nx, fun e s => ∃ n', n' < n ∧ P n' e s⟩ en S1 else dn.nx en S1) (n : Nat) (h0 : P n en S) : wWhile T body W dn en S := ⟨P, ⟨n, h0⟩, step⟩
theorem caught_self : caught x x = true := by simp [caught]
instance {xs : List PyData} : Stp (vRev (.d (.list xs)) S k) (k (.d (.list xs.reverse)) S) := ⟨fun h => by
  unfold vRev
  simp only [lsrW, dats_map, ← List.map_reverse]
  exact h⟩
end
/-! ### what is known at once -/
theorem isi_of {n : String} {d : PyData} {v : Bool} {S : Sto} {k : KE} (e : isT n d = v) (h : k (.d (.bool v)) S) : vIsi n (.d d) S k := by
  subst e
  exact h
section
variable {S : Sto} {k : KE} {i : Int} {b : Bool} {x : Str} {xs : List PyData} {kvs : List (PyData × PyData)} {a1 a2 a3 a4 a5 a6 : PyData}
instance : Stp (vIsi "int" (.d (.none)) S k) (k (.d (.bool false)) S) := ⟨isi_of (by simp [isT])⟩
instance : Stp (vIsi "int" (.d (.bool b)) S k) (k (.d (.bool true)) S) := ⟨isi_of (by simp [isT])⟩
instance : Stp (vIsi "int" (.d (.int i)) S k) (k (.d (.bool true)) S) := ⟨isi_of (by simp [isT])⟩
instance : Stp (vIsi "int" (.d (.str x)) S k) (k (.d (.bool false)) S) := ⟨isi_of (by simp [isT])⟩
instance : Stp (vIsi "int" (.d (.list xs)) S k) (k (.d (.bool false)) S) := ⟨isi_of (by simp [isT])⟩
instance : Stp (vIsi "int" (.d (.tuple xs)) S k) (k (.d (.bool false)) S) := ⟨isi_of (by simp [isT])⟩
instance : Stp (vIsi "bool" (.d (.none)) S k) (k (.d (.bool false)) S) := ⟨isi_of (by simp [isT])⟩
instance : Stp (vIsi "bool" (.d (.bool b)) S k) (k (.d (.bool true)) S) := ⟨isi_of (by simp [isT])⟩
instance : Stp (vIsi "bool" (.d (.int i)) S k) (k (.d (.bool false)) S) := ⟨isi_of (by simp [isT])⟩
instance : Stp (vIsi "bool" (.d (.str x)) S k) (k (.d (.bool false)) S) := ⟨isi_of (by simp [isT])⟩
instance : Stp (vIsi "bool" (.d (.list xs)) S k) (k (.d (.bool false)) S) := ⟨isi_of (by simp [isT])⟩
instance : Stp (vIsi "bool" (.d (.tuple xs)) S k) (k (.d (.bool false)) S) := ⟨isi_of (by simp [isT])⟩
instance : Stp (vIsi "str" (.d (.none)) S k) (k (.d (.bool false)) S) := ⟨isi_of (by simp [isT])⟩
instance : Stp (vIsi "str" (.d (.bool b)) S k) (k (.d (.bool false)) S) := ⟨isi_of (by simp [isT])⟩
instance : Stp (vIsi "str" (.d (.int i)) S k) (k (.d (.bool false)) S) := ⟨isi_of (by simp [isT])⟩
instance : Stp (vIsi "str" (.d (.str x)) S k) (k (.d (.bool true)) S) := ⟨isi_of (by simp [isT])⟩
instance : Stp (vIsi "str" (.d (.list xs)) S k) (k (.d (.bool false)) S) := ⟨isi_of (by simp [isT])⟩
instance : Stp (vIsi "str" (.d (.tuple xs)) S k) (k (.d (.bool false)) S) := ⟨isi_of (by simp [isT])⟩
instance : Stp (vIsi "tuple" (.d (.none)) S k) (k (.d (.bool false)) S) := ⟨isi_of (by simp [isT])⟩
instance : Stp (vIsi "tuple" (.d (.bool b)) S k) (k (.d (.bool false)) S) := ⟨isi_of (by simp [isT])⟩
instance : Stp (vIsi "tuple" (.d (.int i)) S k) (k (.d (.bool false)) S) := ⟨isi_of (by simp [isT])⟩
instance : Stp (vIsi "tuple" (.d (.str x)) S k) (k (.d (.bool false)) S) := ⟨isi_of (by simp [isT])⟩
instance : Stp (vIsi "tuple" (.d (.list xs)) S k) (k (.d (.bool false)) S) := ⟨isi_of (by simp [isT])⟩
instance : Stp (vIsi "tuple" (.d (.tuple xs)) S k) (k (.d (.bool true)) S) := ⟨isi_of (by simp [isT])⟩
instance : Stp (vIsi "list" (.d (.none)) S k) (k (.d (.bool false)) S) := ⟨isi_of (by simp [isT])⟩
instance : Stp (vIsi "list" (.d (.bool b)) S k) (k (.d (.bool false)) S) := ⟨isi_of (by simp [isT])⟩
instance : Stp (vIsi "list" (.d (.int i)) S k) (k (.d (.bool false)) S) := ⟨isi_of (by simp [isT])⟩
instance : Stp (vIsi "list" (.d (.str x)) S k) (k (.d (.bool false)) S) := ⟨isi_of (by simp [isT])⟩
instance : Stp (vIsi "list" (.d (.list xs)) S k) (k (.d (.bool true)) S) := ⟨isi_of (by simp [isT])⟩
instance : Stp (vIsi "list" (.d (.tuple xs)) S k) (k (.d (.bool false)) S) := ⟨isi_of (by simp [isT])⟩
instance : Stp (vIsN true (.d (.none)) (.d .none) S k) (k (.d (.bool false)) S) := ⟨fun h => v_isNon h⟩
instance : Stp (vIsN false (.d (.none)) (.d .none) S k) (k (.d (.bool true)) S) := ⟨fun h => v_isNon h⟩
instance : Stp (vIsN true (.d (.bool b)) (.d .none) S k) (k (.d (.bool true)) S) := ⟨fun h => v_isNon h⟩
instance : Stp (vIsN false (.d (.bool b)) (.d .none) S k) (k (.d (.bool false)) S) := ⟨fun h => v_isNon h⟩
instance : Stp (vIsN true (.d (.int i)) (.d .none) S k) (k (.d (.bool true)) S) := ⟨fun h => v_isNon h⟩
instance : Stp (vIsN false (.d (.int i)) (.d .none) S k) (k (.d (.bool false)) S) := ⟨fun h => v_isNon h⟩
instance : Stp (vIsN true (.d (.str x)) (.d .none) S k) (k (.d (.bool true)) S) := ⟨fun h => v_isNon h⟩
instance : Stp (vIsN false (.d (.str x)) (.d .none) S k) (k (.d (.bool false)) S) := ⟨fun h => v_isNon h⟩
instance : Stp (vIsN true (.d (.list xs)) (.d .none) S k) (k (.d (.bool true)) S) := ⟨fun h => v_isNon h⟩
instance : Stp (vIsN false (.d (.list xs)) (.d .none) S k) (k (.d (.bool false)) S) := ⟨fun h => v_isNon h⟩
instance : Stp (vIsN true (.d (.tuple xs)) (.d .none) S k) (k (.d (.bool true)) S) := ⟨fun h => v_isNon h⟩
instance : Stp (vIsN false (.d (.tuple xs)) (.d .none) S k) (k (.d (.bool false)) S) := ⟨fun h => v_isNon h⟩
instance : Stp (vLen [.d (.tuple [])] S k) (k (.d (.int 0)) S) := ⟨id⟩
instance : Stp (vLen [.d (.list [])] S k) (k (.d (.int 0)) S) := ⟨id⟩
instance : Stp (vLen [.d (.tuple [a1])] S k) (k (.d (.int 1)) S) := ⟨id⟩
instance : Stp (vLen [.d (.list [a1])] S k) (k (.d (.int 1)) S) := ⟨id⟩
instance : Stp (vLen [.d (.tuple [a1, a2])] S k) (k (.d (.int 2)) S) := ⟨id⟩
instance : Stp (vLen [.d (.list [a1, a2])] S k) (k (.d (.int 2)) S) := ⟨id⟩
instance : Stp (vLen [.d (.tuple [a1, a2, a3])] S k) (k (.d (.int 3)) S) := ⟨id⟩
instance : Stp (vLen [.d (.list [a1, a2, a3])] S k) (k (.d (.int 3)) S) := ⟨id⟩
instance : Stp (vLen [.d (.tuple [a1, a2, a3, a4])] S k) (k (.d (.int 4)) S) := ⟨id⟩
instance : Stp (vLen [.d (.list [a1, a2, a3, a4])] S k) (k (.d (.int 4)) S) := ⟨id⟩
instance : Stp (vLen [.d (.tuple [a1, a2, a3, a4, a5])] S k) (k (.d (.int 5)) S) := ⟨id⟩
instance : Stp (vLen [.d (.list [a1, a2, a3, a4, a5])] S k) (k (.d (.int 5)) S) := ⟨id⟩
instance : Stp (vLen [.d (.tuple [a1, a2, a3, a4, a5, a6])] S k) (k (.d (.int 6)) S) := ⟨id⟩
instance : Stp (vLen [.d (.list [a1, a2, a3, a4, a5, a6])] S k) (k (.d (.int 6)) S) := ⟨id⟩
end
/-! ### a list or a tuple -/
def sqd (b : Bool) (xs : List PyData) : PyData := match b with
  | true => .list xs
  | false => .tuple xs
section
variable {S : Sto} {k : KE} {ki : KI} {b : Bool} {xs : List PyData} {a : Int} {d : PyData} {kp : Bool → Prop}
instance : Stp (vLen [.d (sqd b xs)] S k) (k (.d (.int xs.length)) S) := ⟨fun h => by cases b <;> (dsimp only [sqd] at *; exact Stp.h h)⟩
instance {lo hi : Option Int} : Stp (vSl (.d (sqd b xs)) lo hi S k) (k (.d (sqd b (cut xs lo hi))) S) := ⟨fun h => by cases b <;> (dsimp only [sqd] at *; exact Stp.h h)⟩
instance : Stp (vItSeq (.d (sqd b xs)) S ki) (ki (xs.map Val.d) (fun _ => True) S) := ⟨fun h => by cases b <;> (dsimp only [sqd] at *; exact Stp.h h)⟩
instance : Stp (vEnum (.d (sqd b xs)) S ki) (ki (enL xs) (fun _ => True) S) := ⟨fun h => by cases b <;> (dsimp only [sqd] at *; exact Stp.h h)⟩
instance : Stp (vTru S (.d (sqd b xs)) kp) (kp (!xs.isEmpty)) := ⟨fun h => by cases b <;> (dsimp only [sqd] at *; exact Stp.h h)⟩
theorem v_ixQ (e : itm xs a = some d) (h : k (.d d) S) : vIx (.d (sqd b xs)) (.d (.int a)) S k := by
  cases b
  · exact v_ixT e h
  · exact v_ixL e h
theorem v_ixQm {α : Type} {l : List α} {f : α → PyData} {x : α} {n : Nat} (h : a = (n : Nat)) (e : l[n]? = some x) (q : k (.d (f x)) S) : vIx (.d (sqd b (l.map f))) (.d (.int a)) S k := v_ixQ (itm_of h (by rw [List.getElem?_map, e]; rfl)) q
end
end DL

set_option Elab.async false
set_option linter.all false
set_option maxRecDepth 100000
set_option maxHeartbeats 4000000
/-! DL23: equal data. -/
namespace DL
open PySem PySem.Spec PyProof.Rows L2
mutual
/-- no bool and no dict in it -/
def nbD : PyData → Bool
  | .none => true
  | .bool _ => false
  | .int _ => true
  | .str _ => true
  | .list xs => nbA xs
  | .tuple xs => nbA xs
  | .dict _ => false
def nbA : List PyData → Bool
  | [] => true
  | x :: xs => nbD x && nbA xs
/-- no dict in it -/
def okD : PyData → Bool
  | .none => true
  | .bool _ => true
  | .int _ => true
  | .str _ => true
  | .list xs => okA xs
  | .tuple xs => okA xs
  | .dict _ => false
def okA : List PyData → Bool
  | [] => true
  | x :: xs => okD x && okA xs
end
theorem nbA_all : ∀ {xs : List PyData}, nbA xs = true ↔ ∀ x ∈ xs, nbD x = true
  | [] => by simp [nbA]
  | x :: xs => by
    rw [nbA, Bool.and_eq_true, nbA_all (xs := xs)]
    simp
theorem okA_all : ∀ {xs : List PyData}, okA xs = true ↔ ∀ x ∈ xs, okD x = true
  | [] => by simp [okA]
  | x :: xs => by
    rw [okA, Bool.and_eq_true, okA_all (xs := xs)]
    simp
mutual
theorem ok_nb : ∀ (d : PyData), nbD d = true → okD d = true
  | .none, _ | .int _, _ | .str _, _ => by simp [okD]
  | .bool _, h | .dict _, h => by simp [nbD] at h
  | .list xs, h | .tuple xs, h => by
    rw [nbD] at h
    rw [okD]
    exact okA_nb xs h
theorem okA_nb : ∀ (xs : List PyData), nbA xs = true → okA xs = true
  | [], _ => by simp [okA]
  | x :: xs, h => by
    rw [nbA, Bool.and_eq_true] at h
    rw [okA, ok_nb x h.1, okA_nb xs h.2]
    rfl
end
mutual
theorem eqv_refl : ∀ (d : PyData), okD d = true → PyData.eqv d d = true
  | .none, _ | .int _, _ | .str _, _ | .bool _, _ => by simp [PyData.eqv]
  | .dict _, h => by simp [okD] at h
  | .list xs, h | .tuple xs, h => by
    rw [okD] at h
    rw [PyData.eqv]
    exact eqvAll_refl xs h
theorem eqvAll_refl : ∀ (xs : List PyData), okA xs = true → PyData.eqvAll xs xs = true
  | [], _ => by simp [PyData.eqvAll]
  | x :: xs, h => by
    rw [okA, Bool.and_eq_true] at h
    rw [PyData.eqvAll, eqv_refl x h.1, eqvAll_refl xs h.2]
    rfl
end
mutual
theorem eqv_eq : ∀ (x y : PyData), nbD x = true → nbD y = true → PyData.eqv x y = true → x = y
  | .int a, y, _, h2, h => by
    cases y <;> simp_all [PyData.eqv, nbD]
  | .none, y, _, h2, h => by
    cases y <;> simp_all [PyData.eqv, nbD]
  | .str a, y, _, h2, h => by
    cases y <;> simp_all [PyData.eqv, nbD]
  | .bool _, _, h, _, _ => by simp [nbD] at h
  | .dict _, _, h, _, _ => by simp [nbD] at h
  | .list xs, y, h1, h2, h => by
    cases y with
    | list ys =>
      rw [PyData.eqv] at h
      rw [nbD] at h1 h2
      rw [eqvAll_eq xs ys h1 h2 h]
    | _ => simp [PyData.eqv] at h
  | .tuple xs, y, h1, h2, h => by
    cases y with
    | tuple ys =>
      rw [PyData.eqv] at h
      rw [nbD] at h1 h2
      rw [eqvAll_eq xs ys h1 h2 h]
    | _ => simp [PyData.eqv] at h
theorem eqvAll_eq : ∀ (xs ys : List PyData), nbA xs = true → nbA ys = true → PyData.eqvAll xs ys = true → xs = ys
  | [], [], _, _, _ => rfl
  | [], _ :: _, _, _, h => by simp [PyData.eqvAll] at h
  | _ :: _, [], _, _, h => by simp [PyData.eqvAll] at h
  | x :: xs, y :: ys, h1, h2, h => by
    rw [nbA, Bool.and_eq_true] at h1 h2
    rw [PyData.eqvAll, Bool.and_eq_true] at h
    rw [eqv_eq x y h1.1 h2.1 h.1, eqvAll_eq xs ys h1.2 h2.2 h.2]
end
theorem eqv_ne {x y : PyData} (h1 : nbD x = true) (h2 : nbD y = true) (h : x ≠ y) : PyData.eqv x y = false := by
  cases e : PyData.eqv x y with
  | false => rfl
  | true => exact absurd (eqv_eq x y h1 h2 e) h
section
variable {S : Sto} {k : KE} {x y d : PyData}
/-- the same, compared -/
theorem v_eqS (s : Sh d) (o : okD d = true) (h : k (.d (.bool true)) S) : vEq (.d d) (.d d) S k := v_eq rfl rfl s s (by rw [eqv_refl d o]; exact h)
theorem v_neS (s : Sh d) (o : okD d = true) (h : k (.d (.bool false)) S) : vNe (.d d) (.d d) S k := v_ne rfl rfl s s (by rw [eqv_refl d o]; exact h)
theorem v_eqX (s1 : Sh x) (s2 : Sh y) (n1 : nbD x = true) (n2 : nbD y = true) (h1 : x = y → k (.d (.bool true)) S) (h2 : x ≠ y → k (.d (.bool false)) S) : vEq (.d x) (.d y) S k := by
  refine v_eq rfl rfl s1 s2 ?_
  by_cases e : x = y
  · rw [e, eqv_refl y (ok_nb y n2)]
    exact h1 e
  · rw [eqv_ne n1 n2 e]
    exact h2 e
theorem v_neX (s1 : Sh x) (s2 : Sh y) (n1 : nbD x = true) (n2 : nbD y = true) (h1 : x = y → k (.d (.bool false)) S) (h2 : x ≠ y → k (.d (.bool true)) S) : vNe (.d x) (.d y) S k := by
  refine v_ne rfl rfl s1 s2 ?_
  by_cases e : x = y
  · rw [e, eqv_refl y (ok_nb y n2)]
    exact h1 e
  · rw [eqv_ne n1 n2 e]
    exact h2 e
end
theorem shN_str {n : Nat} {x : Str} (h : PyData.canLay0 (.str x) = true := by decide +kernel) : shN n (.str x) := ⟨h, by rw [PyData.depth]; exact Nat.zero_le _⟩
theorem shN_nil {n : Nat} {x : PyData} (h : x ∈ ([] : List PyData)) : shN n x := by cases h
theorem shN_cons {n : Nat} {x y : PyData} {ys : List PyData} (h : shN n y) (t : x ∈ ys → shN n x) (hx : x ∈ y :: ys) : shN n x := by
  rcases List.mem_cons.mp hx with rfl | hx
  · exact h
  · exact t hx
theorem sh_tag {t : Str} {i : Int} (h : PyData.canLay0 (.str t) = true := by decide +kernel) : Sh (.tuple [.str t, .int i]) := Sh.of (shN_tup (n := 0) fun _ => shN_cons (shN_str h) (shN_cons shN_int shN_nil))
theorem nb_map {α : Type} {l : List α} {f : α → PyData} (h : ∀ x ∈ l, nbD (f x) = true) : nbA (l.map f) = true := nbA_all.mpr fun d hd => by
  obtain ⟨x, hx, rfl⟩ := List.mem_map.mp hd
  exact h x hx
end DL

set_option Elab.async false
set_option linter.all false
set_option maxRecDepth 100000
set_option maxHeartbeats 4000000
/-! DL24: what a law's end needs. -/
namespace DL
open PySem PySem.Spec PyProof.Rows L2
/-- the first def of a class's suite -/
def initS : Stmt → Stmt
  | .ClassDef _ _ _ b _ _ _ _ _ _ _ => b.getD 0 (.Pass ⟨0, 0, 0, 0⟩)
  | s => s
theorem refF_mk {P : Program} {w : World} {K : PySem.W.Frag} {mg : Str → Option Value} {R fI cc cda : Addr} {sI : Stmt} {oc kV doc pm ct cl ccl : Value} {od an cld cdd : Option Addr} {osl csl ccs : Array (Option Value)} {vs : Array Value} {file : Str} {tf : Tok} {ar : Arg} {cdR : ClassData} {p0 p1 p2 p3 p4 p5 p6 p7 p8 p9 : Pos} {j : Nat}
    (hb : defBody sI = [.Expr (.Call (.Attribute (.Call (.Name "super" p0) [] [] p1) "__init__" p2) [.Constant (.str "refused") j p3] [] p4) p5, .Assign [.Attribute (.Name "self" p6) "what" p7] (.Name "what" p8) p9])
    (h1 : K.lookup fI = some ⟨oc, od, .func (PySem.W.fnX "__init__" "Refused.__init__" (defArgs sI) (defBody sI) (defScope sI) [("__class__", cc)] .none kV doc pm an (.ref cda) ct), osl⟩) (h2 : PySem.W.codeIn K (.ref cda) "Refused.__init__" = true)
    (h3 : K.lookup cc = some ⟨cl, cld, .cell (some (.ref R)), csl⟩) (h4 : K.lookup cda = some ⟨ccl, cdd, .fields vs, ccs⟩) (h5 : vs[2]? = some (.str file tf)) (h6 : ((P.main.file : Str) == file) = true)
    (h7 : NdefX.NScope ["self", "what", "__class__"] ["self", "what"] ["__class__"] (defScope sI)) (h8 : (defScope sI).names.lookup ("super" : Str) = some .globalImplicit) (h9 : mg "super" = none) (h10 : (P.main.scope.names.lookup ("super" : Str)).isSome = false)
    (h11 : PySem.W.clsIn K R = some cdR) (h12 : PySem.W.nsIn K cStatics "thirdparty.any" = some none) (h13 : ((defArgs sI).posonlyargs ++ (defArgs sI).args).head? = some ar) (h14 : ar.arg = "self") (h15 : (p2.endLine == p4.line) = true) :
    RefF P w K mg R fI (PySem.W.fnX "__init__" "Refused.__init__" (defArgs sI) (defBody sI) (defScope sI) [("__class__", cc)] .none kV doc pm an (.ref cda) ct) :=
  ⟨_, _, _, _, _, _, _, _, _, _, _, _, _, _, _, _, _, _, _, _, _, _, _, _, _, _, _, _, _, _, _, _, _, _, by rw [hb], h1, h2, h3, h4, h5, h6, h7, h8, h9, h10, h11, h12, h13, h14, h15⟩
end DL

set_option Elab.async false
set_option linter.all false
set_option maxRecDepth 100000
set_option maxHeartbeats 4000000
/-! DL25: t[::-1] of a tuple; l.extend(a tuple). -/
namespace HT
open PySem PyProof.Rows
section
variable {prog : Program} {w : World} {A : Around} {E : Value → Shared → Prop} {s : Shared}
theorem adjust_rev (n : Nat) : Builtin.Slice.sliceAdjust none none (-1) (n : Int) = ((n : Int) - 1, -1) := by
  unfold Builtin.Slice.sliceAdjust
  simp
theorem places_rev (n : Nat) : Builtin.Slice.slicePlaces ((n : Int) - 1) (-1) (-1) = n := by
  unfold Builtin.Slice.slicePlaces
  have h1 : ¬ ((-1 : Int) > 0) := by omega
  simp only [h1, if_false, Int.neg_neg, Int.ediv_one]
  split <;> omega
theorem sliceApplied_rev {sl : Addr} {vl vu vs : Value} {n : Nat} {Q : Int × Int × Nat → Shared → Prop} (hs : s.heap.IsSliceOf sl vl vu vs) (pl : IsPart vl none) (pu : IsPart vu none) (ps : IsPart vs (some (-1)))
    (h : Q ((n : Int) - 1, -1, n) s) : wpAny (model prog w) A (Builtin.Slice.sliceApplied (.ref sl) (pure (n : Int))) Q E s := by
  obtain ⟨os, hos, hcs, hds⟩ := id hs
  unfold Builtin.Slice.sliceApplied Builtin.Slice.sliceFields
  refine wpAny_bind (wpAny_bind (wpAny_field hos hds (x := vl) rfl (wpAny_bind (wpAny_field hos hds (x := vu) rfl (wpAny_bind (wpAny_field hos hds (x := vs) rfl (wpAny_pure ?_)))))))
  refine wpAny_bind (slicePart_ ps ?_)
  show wpAny _ _ (if ((-1 : Int) == 0) = true then _ else _) _ _ s
  rw [if_neg (by decide)]
  refine wpAny_bind (slicePart_ pl (wpAny_bind (slicePart_ pu (wpAny_bind (wpAny_pure ?_)))))
  show wpAny _ _ (match Builtin.Slice.sliceAdjust none none (-1) (n : Int) with | (lo, hi) => pure (lo, (-1 : Int), Builtin.Slice.slicePlaces lo hi (-1))) _ _ s
  rw [adjust_rev n]
  show wpAny _ _ (pure ((n : Int) - 1, (-1 : Int), Builtin.Slice.slicePlaces ((n : Int) - 1) (-1) (-1))) _ _ s
  rw [places_rev]
  exact wpAny_pure h
theorem fm_congr {α β : Type} {f g : α → Option β} : ∀ {l : List α}, (∀ x ∈ l, f x = g x) → l.filterMap f = l.filterMap g
  | [], _ => rfl
  | x :: l, h => by
    rw [List.filterMap_cons, List.filterMap_cons, h x List.mem_cons_self, fm_congr fun y hy => h y (List.mem_cons_of_mem _ hy)]
theorem rev_gen {α : Type} : ∀ l : List α, ((List.range l.length).filterMap fun m : Nat => l[l.length - 1 - m]?) = l.reverse
  | [] => rfl
  | x :: l => by
    rw [List.length_cons, List.range_succ, List.filterMap_append, List.reverse_cons, ← rev_gen l]
    congr 1
    · refine fm_congr fun m hm => ?_
      have := List.mem_range.mp hm
      rw [show l.length + 1 - 1 - m = (l.length - 1 - m) + 1 by omega, List.getElem?_cons_succ]
    · simp
theorem pick_rev (xs : Array Value) : ((List.range xs.size).filterMap fun (m : Nat) => xs[((xs.size : Int) - 1 + (m : Int) * (-1)).toNat]?).toArray = xs.toList.reverse.toArray := by
  congr 1
  rw [← rev_gen xs.toList, Array.length_toList]
  refine fm_congr fun m hm => ?_
  have := List.mem_range.mp hm
  rw [show ((xs.size : Int) - 1 + (m : Int) * (-1)).toNat = xs.size - 1 - m by omega, Array.getElem?_toList]
theorem getItem_tuple_rev {t sl : Addr} {items : Array Value} {vl vu vs : Value} {Q : Value → Shared → Prop} (ht : IsTup s.heap t items) (hs : s.heap.IsSliceOf sl vl vu vs) (pl : IsPart vl none) (pu : IsPart vu none) (ps : IsPart vs (some (-1)))
    (h : Q (.ref s.heap.objs.size) { s with heap := s.heap.push { cls := .type "tuple", data := .seq items.toList.reverse.toArray } })
    (hsz : items.size ≤ sizeLine) : wpAny (model prog w) A (getItem (.ref t) (.ref sl)) Q E s := by
  have htake : sizeOk (.seq items.toList.reverse.toArray) := by
    show items.toList.reverse.toArray.size ≤ sizeLine
    rw [List.size_toArray, List.length_reverse, Array.length_toList]
    omega
  obtain ⟨os, hos, hcs, hds⟩ := id hs
  have hTs : s.TypeIs (.ref sl) "slice" := ⟨os, hos, hcs⟩
  unfold getItem
  try with_reducible refine wpAny_holding ?_
  first | refine wpAny_bind (wpAny_pure ?_) | skip
  refine wpAny_bind (wpAny_sequenceKey ht.typeIs (by decide) ?_)
  refine wpAny_bind (wpAny_callSpecial?_slot (name := Str.ofString "__getitem__") ht.typeIs PyProof.Rows.slot_tuple_getitem
    (wpAny_call_entry PyProof.Rows.slot_tuple_getitem ht.typeIs entry_tuple_getitem ?_ (args_tuple_getitem _ _)))
  show wpAny _ _ (Builtin.Tuple.tupleItemsOf (.ref t) >>= _) _ _ s
  refine wpAny_bind (tupleItemsOf_ ht ?_)
  refine wpAny_bind (wpAny_typeOf hTs ?_)
  rw [if_pos (by decide)]
  refine wpAny_bind (sliceApplied_rev hs pl pu ps ?_)
  have hno : ¬ ((((items.size : Int) - 1) == 0 && (-1 : Int) == 1 && items.size == items.size) = true) := by
    intro q
    rw [Bool.and_eq_true, Bool.and_eq_true] at q
    exact absurd q.1.2 (by decide)
  show wpAny _ _ (if (((items.size : Int) - 1) == 0 && (-1 : Int) == 1 && items.size == items.size) = true then _ else _) _ _ s
  rw [if_neg hno, pick_rev]
  first
    | exact wpAny_bind (m := Builtin.Tuple.tupleExact _) (wpAny_newObj_type (wpAny_pure ⟨_, rfl, wpAny_pure h⟩) htake)
    | exact wpAny_bind (m := Builtin.Tuple.tupleExact _) (wpAny_newObj_type (wpAny_bind (wpAny_pure (wpAny_pure ⟨_, rfl, wpAny_pure h⟩))) htake)
    | exact wpAny_bind (wpAny_bind (m := Builtin.Tuple.tupleExact _) (wpAny_newObj_type (wpAny_pure (wpAny_pure ⟨_, rfl, wpAny_pure h⟩)) htake))
    | exact wpAny_bind (wpAny_bind (m := Builtin.Tuple.tupleExact _) (wpAny_newObj_type (wpAny_pure ⟨_, rfl, wpAny_pure h⟩) htake))
end
section
open PySem.SeqAt
open PySem.AutoSeq1 (wpAny_loadPart')
open PySem.MeetsSeq PySem.MeetsSeq2 PySem.MeetsSeq3
theorem list_extend_tupW (l : Addr) (items : Array Value) (n : Nat) (b : Addr) (items2 : Array Value) (n2 : Nat) (dd2 : Option Addr) (sl2 : Array (Option Value)) (hs0 : ¬(!items.isEmpty && Builtin.List.listTooLong (items.size + items2.size)) = true) (hs1 : items.size ≤ sizeLine) (hs2 : items.size + items2.size ≤ sizeLine + 1 := by seq_fits) :
    Meets (Builtin.«list.extend» ⟨[.ref l, .ref b], []⟩) (fun _ R s => s.heap.get? l = some { cls := .type "list", dict := none, data := .seq items n, slots := #[] } ∧ s.heap.get? b = some { cls := .type "tuple", dict := dd2, data := .seq items2 n2, slots := sl2 } ∧ R (.ok (.ret Value.none)) { s with heap := s.heap.update l (Obj.mapSeq fun x => x ++ items2), toks := s.toks }) :=
  .of_wp fun prog w A R s h => by
    obtain ⟨hp, g, d, tk, os⟩ := s; obtain ⟨hl, hb, h⟩ := h; have f1 := PySem.AutoSeq1.idx_int; have f2 := PySem.AutoSeq1.sub_tuple_tuple; have f3 := PySem.AutoSeq1.sub_list_list; have f4 := PySem.AutoSeq1.sub_tuple_list; have f5 := PySem.AutoSeq1.sub_list_tuple;
    have hz' : (items ++ items2).size ≤ sizeLine + 1 := by rw [Array.size_append]; exact hs2
    wp_walk using (wpAny_updateSeq hl rfl (hz := hs1) (_hz' := hz')), wpAny_loadPart' hl, wpAny_loadPart' hb; exact ⟨_, rfl, h⟩
end
end HT
namespace L2
open PySem PySem.Spec PyProof.Rows
section
variable {X : Cx}
def rExtendA (K : PySem.W.Frag) : V → List V → Hp → VK → Prop := fun x vs H Q => rExtend x vs H Q ∨ ∃ l b xs zs, x = .ref l ∧ vs = [.ref b] ∧ H l = some (.lst xs) ∧ SqT K H b zs ∧ xs.length + zs.length ≤ sizeLine ∧ Q .non (upd H l (.lst (xs ++ zs)))
theorem mt_extendA : MtM X "list.extend" (rExtendA X.K) := by
  intro pins s σ H x vs v us Q I rx rv h
  rcases h with h | h
  · exact mt_extend pins s σ H x vs v us Q I rx rv h
  obtain ⟨l, b, xs, zs, rfl, rfl, hH, hB, hz, q⟩ := h
  cases rx
  obtain ⟨u, rfl, ru⟩ := rv.one
  cases ru
  obtain ⟨z, its, n, r, hl, e⟩ := I.lstM hH
  obtain ⟨its2, r2, ht, hz2⟩ := I.tuple hB
  have hl2 := r2.length
  obtain ⟨⟨cls2, dd2, data2, sl2⟩, ho2, hc2, n2, hd2⟩ := id ht
  simp only at hc2 hd2
  subst hc2 hd2
  have hsz : its.toArray.size + its2.toArray.size ≤ sizeLine := by rw [List.size_toArray, List.size_toArray]; omega
  have hlong : ¬ (!its.toArray.isEmpty && Builtin.List.listTooLong (its.toArray.size + its2.toArray.size)) = true := by
    rw [notLongL hsz, Bool.and_false]
    exact Bool.false_ne_true
  refine call_meets PySem.F.slot_list_extend ⟨_, e, rfl⟩ PySem.F.entry_list_extend (PySem.F.args_list_extend_2 _ _)
    (HT.list_extend_tupW l its.toArray n b its2.toArray n2 dd2 sl2 hlong (by rw [List.size_toArray]; omega) (by omega)) ⟨e, ho2, ?_⟩
  refine ⟨.non, _, I.lset (its' := its ++ its2) hH e (by simp) (r.append r2) ?_, rfl, q⟩
  rw [List.length_append]
  omega
/-- xs[::-1], a list or a tuple -/
def tRevA (K : PySem.W.Frag) (te : TE) : TE := fun σ H Q => te σ H fun x H1 => ∃ a xs, x = .ref a ∧ ((SqL K H1 a xs ∧ ∀ p, H1 p = none → Q (.ref p) (upd H1 p (.lst xs.reverse))) ∨ (SqT K H1 a xs ∧ ∀ p, H1 p = none → Q (.ref p) (upd H1 p (.tup xs.reverse))))
theorem pe_revA {e : Expr} {te : TE} {k : Nat} {p1 p2 p3 pos : Pos} (he : PE X e te) : PE X (.Subscript e (.Slice none none (some (.UnaryOp .USub (.Constant (.int 1) k p1) p2)) p3) pos) (tRevA X.K te) := by
  refine ⟨fun pins s σ H Q I h => ?_⟩
  refine Subscript_ (thn (he.run pins s σ H _ I h) fun v s1 ⟨x, H1, I1, r1, q1⟩ => ?_)
  obtain ⟨a, xs, ex, hx⟩ := q1
  subst ex
  cases r1
  have hst : PO X (some (.UnaryOp .USub (.Constant (.int 1) k p1) p2)) (tPart (tUn (rU fun i => .int (-i)) (tC (.int 1)))) := po_some (pe_un un_neg pe_int)
  refine wpAny_Slice (thn (po_none.run pins s1 σ H1 (fun o H2 => o = none ∧ H2 = H1) I1 ⟨rfl, rfl⟩) fun vl s2 ⟨l, H2, I2, pl, el, e2⟩ => ?_)
  subst el e2
  refine thn (po_none.run pins s2 σ H2 (fun o H3 => o = none ∧ H3 = H2) I2 ⟨rfl, rfl⟩) fun vu s3 ⟨u, H3, I3, pu, eu, e3⟩ => ?_
  subst eu e3
  refine thn (hst.run pins s3 σ H3 (fun o H4 => o = some (-1) ∧ H4 = H3) I3 ⟨1, rfl, -1, rfl, rfl, rfl⟩) fun vs s4 ⟨o, H4, I4, ps, eo, e4⟩ => ?_
  subst eo e4
  have I5 : Inv X pins σ H4 { s4 with heap := s4.heap.push { cls := .type "slice", data := .fields #[vl, vu, vs] } } := I4.kept (t' := s4.toks) fun b ob q => Heap.get?_push_of_some _ q
  rcases hx with ⟨hx, q⟩ | ⟨hx, q⟩
  · obtain ⟨its, r, ht, hz⟩ := I5.list hx
    have hlen := r.length
    show wpAny (model X.prog X.w) X.A (subscriptTail e (.Slice none none (some (.UnaryOp .USub (.Constant (.int 1) k p1) p2)) p3) (.ref a) (.ref s4.heap.objs.size)) (EP X pins σ Q) X.xe { s4 with heap := s4.heap.push { cls := .type "slice", data := .fields #[vl, vu, vs] } }
    refine tail_any (ops := [.ref a, .ref s4.heap.objs.size]) ht.isList.typeIs (PySem.slot_list_getitem.lookup) ?_ (by with_unfolding_all rfl)
    refine wpAny_getItem_list_slice ht.isList (Heap.IsSliceOf.new _ vl vu vs) pl pu ps (by decide) ?_ (by rw [List.size_toArray]; omega)
    rw [PySem.W.krv_pick]
    refine ⟨.ref _, _, I5.laid (t' := s4.toks) (o := .lst xs.reverse) (fun b ob q => Heap.get?_push_of_some _ q) (Nat.le_refl _) ?_, rfl, q _ (I5.hok.fresh (Nat.le_refl _))⟩
    exact ⟨by rw [List.length_reverse]; exact hz, _, 0, r.reverse, Heap.get?_push_size _ rfl⟩
  · obtain ⟨its, r, ht, hz⟩ := I5.tuple hx
    have hlen := r.length
    show wpAny (model X.prog X.w) X.A (subscriptTail e (.Slice none none (some (.UnaryOp .USub (.Constant (.int 1) k p1) p2)) p3) (.ref a) (.ref s4.heap.objs.size)) (EP X pins σ Q) X.xe { s4 with heap := s4.heap.push { cls := .type "slice", data := .fields #[vl, vu, vs] } }
    refine tail_any (ops := [.ref a, .ref s4.heap.objs.size]) ht.typeIs (PyProof.Rows.slot_tuple_getitem.lookup) ?_ (by with_unfolding_all rfl)
    refine HT.getItem_tuple_rev ht (Heap.IsSliceOf.new _ vl vu vs) pl pu ps ?_ (by rw [List.size_toArray]; omega)
    refine ⟨.ref _, _, I5.laid (t' := s4.toks) (o := .tup xs.reverse) (fun b ob q => Heap.get?_push_of_some _ q) (Nat.le_refl _) ?_, rfl, q _ (I5.hok.fresh (Nat.le_refl _))⟩
    exact ⟨by rw [List.length_reverse]; exact hz, _, r.reverse, IsTup.new _ _⟩
end
end L2
namespace DL
open PySem PySem.Spec PyProof.Rows L2
def vExtendA : RMD := fun x ws S k => match x, ws with
  | .r i, [.d (.tuple zs)] => match S[i]? with
    | some (.lst xs) => xs.length + zs.length ≤ 1000000 ∧ k (.d .none) (S.set i (.lst (xs ++ zs.map Val.d)))
    | _ => False
  | _, _ => vExtend x ws S k
theorem lift_extendA {K : PySem.W.Frag} : LiftM K (rExtendA K) vExtendA := by
  intro H x xs Q m S w ws k r v vs h q
  unfold vExtendA at h
  split at h
  · rename_i i zs
    split at h
    · rename_i ys e
      obtain ⟨a, us, rfl, h1, h2, h3⟩ := post_put (k := k) r v e
      match xs, vs with
      | [y], .cons (.d vy) .nil =>
        obtain ⟨b, us2, rfl, h4, h5⟩ := vy.tup_inv
        have h6 : RVs K m H us2 (zs.map Val.d) := h5.vals
        exact .inr ⟨a, b, us, us2, rfl, rfl, h1, h4, by rw [h2.length, h6.length, List.length_map]; exact line6 h.1, q _ _ (h3 _ _ _ _ (h2.append h6) (.d .non) h.2)⟩
    · exact h.elim
  · exact .inl (lift_extend H x xs Q m S w ws k r v vs h q)
def vRevA : R1D := fun x S k => match x with
  | .d (.tuple ds) => k (.d (.tuple ds.reverse)) S
  | _ => vRev x S k
section
variable {X : Cx} {o e : Expr} {es : List Expr} {F : WE} {G : WA} {apos cpos pos p2 : Pos}
theorem de_extendA (ho : DE X o F) (ha : DA X (e :: es) G) (hbase : attributeBase o "extend" X.env (eval o X.env) = eval o X.env := by rfl)
    (hfew : ((backTo cpos (starEach (e :: es) X.env)).all (fun x => !x.1) && (backToKw cpos (keywordEach [] X.env)).all (fun x => x.1.isSome)
      && decide ((e :: es).length + ([] : List Keyword).length + (if ([] : List Keyword).isEmpty then 0 else 1) < 30)) = true := by rfl)
    (hline : (apos.endLine == cpos.line) = true := by rfl) (hs : starEach (e :: es) X.env = (false, eval e X.env) :: starEach es X.env := by rfl) (hplain : (backTo cpos (starEach es X.env)).any (·.1) = false := by rfl) :
    DE X (.Call (.Attribute o "extend" apos) (e :: es) [] cpos) (wBM "list" vExtendA F G) :=
  de_tBM (fun ta t h1 h2 => pe_bm PySem.F.plainAttrs_list PySem.F.slot_list_extend PySem.F.type_list_extend mt_extendA h1 h2 hbase hfew hline hs hplain) lift_extendA ho ha
theorem de_revA {k : Nat} {p1 p3 : Pos} (he : DE X e F) : DE X (.Subscript e (.Slice none none (some (.UnaryOp .USub (.Constant (.int 1) k p1) p2)) p3) pos) (wUn vRevA F) := by
  refine ⟨fun B W tk => ⟨fun pins s st H Q I ⟨m, en, S, k, g, f, q⟩ => (pe_revA (he.go B W tk)).run pins s st H Q I ⟨m, en, S, _, g, f, fun x H1 p1 => ?_⟩⟩⟩
  obtain ⟨m1, S1, w1, e1, r1, v1, h1⟩ := p1
  unfold vRevA at h1
  split at h1
  · rename_i ds
    obtain ⟨a, vs, rfl, h2, h3⟩ := (by cases v1 with | d h => exact h : RD X.K m1 H1 x (.tuple ds)).tup_inv
    exact ⟨a, vs, rfl, .inr ⟨h2, fun p hp => post_tup r1 h3.reverse h1 (fun v H' pp => q v H' (pp.tr e1)) p hp⟩⟩
  · unfold vRev at h1
    split at h1
    · rename_i ws ew
      obtain ⟨a, vs, rfl, h2, h3⟩ := lsrW_rel r1 v1 ew
      split at h1
      · rename_i ds ed
        exact ⟨a, vs, rfl, .inl ⟨h2, fun p hp => post_lst r1 (dats_rel h3 ed).reverse h1 (fun v H' pp => q v H' (pp.tr e1)) p hp⟩⟩
      · exact h1.elim
    · exact h1.elim
end
section
variable {S : Sto} {k : KE} {i : Nat} {ws : List Val} {xs ys : List PyData} {b : Bool}
instance : Stp (vRevA (.d (.tuple xs)) S k) (k (.d (.tuple xs.reverse)) S) := ⟨id⟩
instance : Stp (vRevA (.d (.list xs)) S k) (k (.d (.list xs.reverse)) S) := ⟨fun h => Stp.h (g := vRev (.d (.list xs)) S k) h⟩
instance : Stp (vRevA (.d (sqd b xs)) S k) (k (.d (sqd b xs.reverse)) S) := ⟨fun h => by cases b <;> (dsimp only [sqd] at *; exact Stp.h h)⟩
theorem v_revM (e : S[i]? = some (.lst (xs.map Val.d))) (h : k (.d (.list xs.reverse)) S) : vRevA (.r i) S k := by
  unfold vRevA vRev
  simp only [lsrW, e, dats_map]
  exact h
instance {f : Ob → Sto} [p : StG S i (.lst ws)] [q : StP S i f] : Stc (vExtendA (.r i) [.d (.tuple ys)] S k) (ws.length + ys.length ≤ 1000000) (k (.d .none) (f (.lst (ws ++ ys.map Val.d)))) := ⟨fun c h => by
  unfold vExtendA
  simp only [p.eq]
  exact ⟨c, by rw [q.eq]; exact h⟩⟩
instance {f : Ob → Sto} [p : StG S i (.lst ws)] [q : StP S i f] : Stc (vExtendA (.r i) [.d (.list ys)] S k) (ws.length + ys.length ≤ 1000000) (k (.d .none) (f (.lst (ws ++ ys.map Val.d)))) := ⟨fun c h => by
  unfold vExtendA vExtend
  simp only [p.eq, lstW]
  exact ⟨by rw [List.length_map]; exact c, by rw [q.eq]; exact h⟩⟩
end
end DL

set_option Elab.async false
set_option linter.all false
set_option maxRecDepth 100000
set_option maxHeartbeats 4000000
/-! DL26: range downwards; zip. -/
namespace DL
open PySem PySem.Spec PyProof.Rows L2 RZ
def rgD (a b : Int) : List Val := (List.range (a - b).toNat).map fun i => Val.d (.int (a - (i : Nat)))
def wRng3 (A : WA) : WI := fun W en S k => A W en S fun ws S1 => match ws with
  | [.d (.int a), .d (.int b), .d (.int c)] => c = -1 ∧ (a ≤ 1000000 ∧ -1000000 ≤ a ∧ b ≤ 1000000 ∧ -1000000 ≤ b) ∧ k (rgD a b) (fun _ => True) S1
  | _ => False
theorem itd_ok {K : PySem.W.Frag} {m : Ids} {H : Hp} {a b : Int} : ItOk K m H (Itc a (-1) (a - b).toNat) (rgD a b) (fun _ => True) := by
  intro m1 H1 S1 e r o i
  refine ⟨fun w hw => ?_, fun hl => ?_⟩
  · unfold rgD at hw
    rw [List.getElem?_map] at hw
    by_cases hi : i < (a - b).toNat
    · rw [List.getElem?_range hi] at hw
      cases hw
      refine ⟨hi, fun x H2 y => ?_⟩
      obtain ⟨e2, e3⟩ := y
      subst e2 e3
      refine ⟨m1, rfl, Ext.refl, r, ?_⟩
      have z : a + (i : Nat) * (-1) = a - (i : Nat) := by omega
      rw [z]
      exact .d (.int _)
    · rw [List.getElem?_eq_none (by simpa using hi)] at hw
      cases hw
  · have z1 : (a - b).toNat ≤ i := by simpa [rgD] using hl
    exact z1
section
variable {X : Cx} {tg : Expr} {a b c e e2 : Expr} {A : WA} {F F2 : WE} {p pos tpos : Pos} {elts : List Expr} {kk : Nat}
theorem di_range3 (hg : Gl X "range") (hm : X.mg "range" = none) (ha : DA X [a, b, c] A)
    (hs : starEach [a, b, c] X.env = (false, eval a X.env) :: starEach [b, c] X.env := by rfl) (hpl : (backTo pos (starEach [b, c] X.env)).any (·.1) = false := by rfl) : DI X tg (.Call (.Name "range" p) [a, b, c] [] pos) (wRng3 A) := by
  refine ⟨fun B W tk => ⟨fun pins s st H R I ⟨m, en, S, k, g, f, q⟩ => (pi_range3 hg hm (ha.go B W tk) hs hpl).run pins s st H R I ⟨m, en, S, _, g, f, fun xs H1 p1 => ?_⟩⟩⟩
  obtain ⟨m1, S1, ws, e1, r1, v1, h1⟩ := p1
  split at h1
  · rename_i a b c
    obtain ⟨rfl, ⟨b1, b2, b3, b4⟩, h1⟩ := h1
    match xs, v1 with
    | [_, _, _], .cons v1 (.cons v2 (.cons v3 .nil)) =>
      refine ⟨a, b, -1, (a - b).toNat, by rw [int_inv v1, int_inv v2, int_inv v3], RgC.neg (by omega) (by omega) (by omega) (by omega), q _ _ ⟨m1, S1, _, _, e1, r1, itd_ok, h1⟩⟩
  · exact h1.elim
end
section
variable {W : XQ} {en : Env} {S : Sto} {ki : KI} {A : WA} {Fa Fb : WE} {a b : Int}
def rng3K (ki : KI) : KA := fun ws S1 => match ws with
  | [.d (.int a), .d (.int b), .d (.int c)] => c = -1 ∧ (a ≤ 1000000 ∧ -1000000 ≤ a ∧ b ≤ 1000000 ∧ -1000000 ≤ b) ∧ ki (rgD a b) (fun _ => True) S1
  | _ => False
instance : Stp (wRng3 A W en S ki) (A W en S (rng3K ki)) := ⟨id⟩
instance : Stc (rng3K ki [.d (.int a), .d (.int b), .d (.int (-1))] S) (a ≤ 1000000 ∧ -1000000 ≤ a ∧ b ≤ 1000000 ∧ -1000000 ≤ b) (ki (rgD a b) (fun _ => True) S) := ⟨fun c h => ⟨rfl, c, h⟩⟩
end
/-- a for over a range downwards -/
theorem turns_down {t : Tg} {body : WS} {ok : Sto → Prop} {W : XQ} {dn : DN} {a b : Int} (I : Nat → Env → Sto → Prop) (hok : ∀ i en S, I i en S → ok S)
    (step : ∀ (i : Nat) en S, i < (a - b).toNat → I i en S → ∃ en', t.w (.d (.int (a - (i : Nat)))) en = some en' ∧ ∀ nx : Pt, (∀ en S, I (i + 1) en S → nx en S) → body W ⟨nx, dn.rt, dn.nx, nx⟩ en' S)
    (fin : ∀ en S, I (a - b).toNat en S → dn.nx en S) {en : Env} {S : Sto} (h0 : I 0 en S) : wTurns t body ok W dn (rgD a b) en S := by
  refine turns_inv (fun i : Nat => Val.d (.int (a - (i : Nat)))) (List.range (a - b).toNat) (fun l en S => l = List.range l.length ∧ l.length ≤ (a - b).toNat ∧ I l.length en S) (fun l en S h => hok _ _ _ h.2.2) ?_ (fun en S h => fin _ _ (by simpa using h.2.2)) ⟨rfl, Nat.zero_le _, h0⟩
  rintro l x r en S e ⟨e1, e2, h⟩
  have hx : x = l.length ∧ l.length < (a - b).toNat := by
    have z1 : (List.range (a - b).toNat)[l.length]? = some x := by rw [e]; simp
    have z2 := (List.getElem?_eq_some_iff.mp z1).1
    rw [List.length_range] at z2
    rw [List.getElem?_range z2] at z1
    exact ⟨(Option.some.inj z1).symm, z2⟩
  obtain ⟨rfl, h2⟩ := hx
  obtain ⟨en', e3, h3⟩ := step l.length en S h2 h
  refine ⟨en', e3, fun nx hn => h3 nx fun en S h4 => hn en S ⟨?_, by simp; omega, by simpa using h4⟩⟩
  rw [List.length_append, List.length_singleton, List.range_succ, ← e1]
/-! ### zip -/
def isTupW : Val → Bool
  | .d (.tuple _) => true
  | _ => false
theorem walked2 {K : PySem.W.Frag} {m : Ids} {H : Hp} {S : Sto} {x : V} {w : Val} {R : List PyData → (Sto → Prop) → Prop} (r : Rel K m H S) (v : RV K m H x w) (h : wlk w S R) :
    ∃ a xs ok, x = .ref a ∧ ok S ∧ R xs ok ∧ ((isTupW w = false ∧ ∀ (m1 : Ids) (H1 : Hp) (S1 : Sto), Exo m H m1 H1 → Rel K m1 H1 S1 → ok S1 → ∃ vs, SqL K H1 a vs ∧ RDs K m1 H1 vs xs) ∨
      (isTupW w = true ∧ ∀ (m1 : Ids) (H1 : Hp) (S1 : Sto), Exo m H m1 H1 → Rel K m1 H1 S1 → ok S1 → ∃ vs, SqT K H1 a vs ∧ RDs K m1 H1 vs xs)) := by
  unfold wlk at h
  split at h
  · rename_i xs
    cases v with
    | d v =>
      cases v with
      | lst h1 h2 h3 => exact ⟨_, xs, _, rfl, True.intro, h, .inl ⟨rfl, fun m1 H1 S1 e r o => ⟨_, SqL.of (e.keep _ _ h1 h2).1, RDs.mox e h3⟩⟩⟩
  · rename_i xs
    cases v with
    | d v =>
      obtain ⟨a, vs, rfl, h1, h2⟩ : ∃ a vs, x = .ref a ∧ ((Rd H a (.tup vs) ∧ Fr m a) ∨ SqT K noH a vs) ∧ RDs K m H vs xs := by
        cases v with
        | tup h1 h2 => exact ⟨_, _, rfl, h1, h2⟩
      refine ⟨a, xs, _, rfl, True.intro, h, .inr ⟨rfl, fun m1 H1 S1 e r o => ⟨vs, ?_, RDs.mox e h2⟩⟩⟩
      rcases h1 with h1 | h1
      · exact sqT_of (.inl (rd_exo e h1.1 h1.2))
      · exact sqT_of (m := m) (.inr h1)
  · rename_i i
    split at h
    · rename_i ws ew
      split at h
      · rename_i xs ex
        obtain ⟨a, e, hm, vs, h1, h2⟩ := v.obj r ew (by intro z; cases z)
        refine ⟨a, xs, _, e, ew, h, .inl ⟨rfl, fun m1 H1 S1 e r o => ?_⟩⟩
        rcases e.ids i _ hm with h3 | h3
        · obtain ⟨vs1, g1, g2⟩ := r.ob i _ _ h3 o
          exact ⟨vs1, SqL.of g1, dats_rel g2 ex⟩
        · have q := r.dd i h3
          rw [o] at q
          cases q
      · exact h.elim
    · exact h.elim
  · exact h.elim
def zL (xs ys : List PyData) : List Val := (xs.zip ys).map fun p => Val.d (.tuple [p.1, p.2])
theorem zL_get {xs ys : List PyData} {i : Nat} {w : Val} (h : (zL xs ys)[i]? = some w) : ∃ x y, xs[i]? = some x ∧ ys[i]? = some y ∧ w = .d (.tuple [x, y]) := by
  unfold zL at h
  rw [List.getElem?_map] at h
  cases e : (xs.zip ys)[i]? with
  | none =>
    rw [e] at h
    cases h
  | some p =>
    rw [e] at h
    cases h
    obtain ⟨h1, h2⟩ := List.getElem?_zip_eq_some.mp e
    exact ⟨p.1, p.2, h1, h2, rfl⟩
def vZip (w z : Val) (S : Sto) (k : KI) : Prop := isTupW w = isTupW z ∧ wlk w S fun xs ok => wlk z S fun ys ok2 => k (zL xs ys) (fun S => ok S ∧ ok2 S) S
def wZip (F F2 : WE) : WI := fun W en S k => F W en S fun w S1 => F2 W en S1 fun z S2 => vZip w z S2 k
section
variable {K : PySem.W.Frag}
theorem itz_ok {m : Ids} {H : Hp} {a b : Addr} {xs ys : List PyData} {ok : Sto → Prop} (h : ∀ (m1 : Ids) (H1 : Hp) (S1 : Sto), Exo m H m1 H1 → Rel K m1 H1 S1 → ok S1 → ∃ vs, SqL K H1 a vs ∧ RDs K m1 H1 vs xs)
    (h2 : ∀ (m1 : Ids) (H1 : Hp) (S1 : Sto), Exo m H m1 H1 → Rel K m1 H1 S1 → ok S1 → ∃ vs, SqL K H1 b vs ∧ RDs K m1 H1 vs ys) : ItOk K m H (Itz K a b) (zL xs ys) ok := by
  intro m1 H1 S1 e r o i
  obtain ⟨vs, h1, h3⟩ := h m1 H1 S1 e r o
  obtain ⟨us, g1, g3⟩ := h2 m1 H1 S1 e r o
  refine ⟨fun w hw => ?_, fun hl => ⟨vs, us, h1, g1, by
    have : (zL xs ys).length = min xs.length ys.length := by simp [zL]
    rw [h3.length, g3.length]
    omega⟩⟩
  obtain ⟨x, y, ex, ey, rfl⟩ := zL_get hw
  obtain ⟨v, p1, p2⟩ := h3.get ex
  obtain ⟨u, q1, q2⟩ := g3.get ey
  refine ⟨⟨vs, us, v, u, h1, g1, p1, q1⟩, fun y H2 q => ?_⟩
  obtain ⟨T, v', u', rfl, hT, rfl, q, q'⟩ := q
  have q := q vs h1
  rw [p1] at q
  cases q
  have q' := q' us g1
  rw [q1] at q'
  cases q'
  have E2 : Ext m1 H1 m1 (upd H1 T (.tup [v, u])) := Ext.new hT
  exact ⟨m1, rfl, E2, r.fresh hT, .d (.tup (.inl ⟨.inl upd_same, r.newF hT⟩) (.cons (p2.mono E2) (.cons (q2.mono E2) .nil)))⟩
theorem itzt_ok {m : Ids} {H : Hp} {a b : Addr} {xs ys : List PyData} {ok : Sto → Prop} (h : ∀ (m1 : Ids) (H1 : Hp) (S1 : Sto), Exo m H m1 H1 → Rel K m1 H1 S1 → ok S1 → ∃ vs, SqT K H1 a vs ∧ RDs K m1 H1 vs xs)
    (h2 : ∀ (m1 : Ids) (H1 : Hp) (S1 : Sto), Exo m H m1 H1 → Rel K m1 H1 S1 → ok S1 → ∃ vs, SqT K H1 b vs ∧ RDs K m1 H1 vs ys) : ItOk K m H (ItzT K a b) (zL xs ys) ok := by
  intro m1 H1 S1 e r o i
  obtain ⟨vs, h1, h3⟩ := h m1 H1 S1 e r o
  obtain ⟨us, g1, g3⟩ := h2 m1 H1 S1 e r o
  refine ⟨fun w hw => ?_, fun hl => ⟨vs, us, h1, g1, by
    have : (zL xs ys).length = min xs.length ys.length := by simp [zL]
    rw [h3.length, g3.length]
    omega⟩⟩
  obtain ⟨x, y, ex, ey, rfl⟩ := zL_get hw
  obtain ⟨v, p1, p2⟩ := h3.get ex
  obtain ⟨u, q1, q2⟩ := g3.get ey
  refine ⟨⟨vs, us, v, u, h1, g1, p1, q1⟩, fun y H2 q => ?_⟩
  obtain ⟨T, v', u', rfl, hT, rfl, q, q'⟩ := q
  have q := q vs h1
  rw [p1] at q
  cases q
  have q' := q' us g1
  rw [q1] at q'
  cases q'
  have E2 : Ext m1 H1 m1 (upd H1 T (.tup [v, u])) := Ext.new hT
  exact ⟨m1, rfl, E2, r.fresh hT, .d (.tup (.inl ⟨.inl upd_same, r.newF hT⟩) (.cons (p2.mono E2) (.cons (q2.mono E2) .nil)))⟩
end
section
variable {X : Cx} {e e2 : Expr} {F F2 : WE} {p pos tpos : Pos} {elts : List Expr} {kk : Nat}
theorem di_zip (hg : Gl X "zip") (hm : X.mg "zip" = none) (he : DE X e F) (he2 : DE X e2 F2) (hs : starEach [e, e2] X.env = (false, eval e X.env) :: starEach [e2] X.env := by rfl) (hs2 : starEach [e2] X.env = [(false, eval e2 X.env)] := by rfl) (hpl : (backTo pos (starEach [e2] X.env)).any (·.1) = false := by rfl) :
    DI X (.Tuple elts kk tpos) (.Call (.Name "zip" p) [e, e2] [] pos) (wZip F F2) := by
  refine ⟨fun B W tk => ⟨fun pins s st H R I ⟨m, en, S, k, g, f, q⟩ => (pi_zipA hg hm (pa_cons (he.go B W tk) (pa_cons (he2.go B W tk) pa_nil hs2) hs) hs hpl).run pins s st H R I ?_⟩⟩
  refine ⟨m, en, S, _, g, f, fun x H1 p1 => ?_⟩
  obtain ⟨m1, S1, w1, e1, r1, v1, h1⟩ := p1
  refine ⟨m1, en, S1, _, g.next e1 r1, h1, fun y H2 p2 => ?_⟩
  obtain ⟨m2, S2, w2, e2, r2, v2, hk, h2⟩ := p2
  obtain ⟨a, xs, ok, rfl, o, h3, z1⟩ := walked2 r2 (v1.mono e2) h2
  obtain ⟨b, ys, ok2, rfl, o2, h4, z2⟩ := walked2 r2 v2 h3
  refine ⟨a, b, ?_⟩
  rcases z1 with ⟨t1, z1⟩ | ⟨t1, z1⟩
  · rcases z2 with ⟨t2, z2⟩ | ⟨t2, z2⟩
    · obtain ⟨vs, u1, _⟩ := z1 m2 H2 S2 Exo.refl r2 o
      obtain ⟨us, u2, _⟩ := z2 m2 H2 S2 Exo.refl r2 o2
      exact ⟨vs, us, rfl, .inl ⟨u1, u2, q _ _ ⟨m2, S2, _, _, e1.trans e2, r2, itz_ok (fun m1 H1 S1 e r o => z1 m1 H1 S1 e r o.1) (fun m1 H1 S1 e r o => z2 m1 H1 S1 e r o.2), h4⟩⟩⟩
    · rw [t1, t2] at hk
      cases hk
  · rcases z2 with ⟨t2, z2⟩ | ⟨t2, z2⟩
    · rw [t1, t2] at hk
      cases hk
    · obtain ⟨vs, u1, _⟩ := z1 m2 H2 S2 Exo.refl r2 o
      obtain ⟨us, u2, _⟩ := z2 m2 H2 S2 Exo.refl r2 o2
      exact ⟨vs, us, rfl, .inr ⟨u1, u2, q _ _ ⟨m2, S2, _, _, e1.trans e2, r2, itzt_ok (fun m1 H1 S1 e r o => z1 m1 H1 S1 e r o.1) (fun m1 H1 S1 e r o => z2 m1 H1 S1 e r o.2), h4⟩⟩⟩
end
section
variable {S : Sto} {ki : KI} {xs ys : List PyData} {Fa Fb : WE} {W : XQ} {en : Env}
def okTT : Sto → Prop := fun _ => True ∧ True
instance : Stp (wZip Fa Fb W en S ki) (Fa W en S fun w S1 => Fb W en S1 fun z S2 => vZip w z S2 ki) := ⟨id⟩
instance : Stp (vZip (.d (.list xs)) (.d (.list ys)) S ki) (ki (zL xs ys) okTT S) := ⟨fun h => ⟨rfl, h⟩⟩
instance : Stp (vZip (.d (.tuple xs)) (.d (.tuple ys)) S ki) (ki (zL xs ys) okTT S) := ⟨fun h => ⟨rfl, h⟩⟩
end
/-- a for over zip -/
theorem turns_zip {t : Tg} {body : WS} {ok : Sto → Prop} {W : XQ} {dn : DN} {xs ys : List PyData} (hl : xs.length = ys.length) (I : Nat → Env → Sto → Prop) (hok : ∀ i en S, I i en S → ok S)
    (step : ∀ (i : Nat) x y en S, xs[i]? = some x → ys[i]? = some y → I i en S → ∃ en', t.w (.d (.tuple [x, y])) en = some en' ∧ ∀ nx : Pt, (∀ en S, I (i + 1) en S → nx en S) → body W ⟨nx, dn.rt, dn.nx, nx⟩ en' S)
    (fin : ∀ en S, I xs.length en S → dn.nx en S) {en : Env} {S : Sto} (h0 : I 0 en S) : wTurns t body ok W dn (zL xs ys) en S := by
  unfold zL
  refine turns_inv (fun p : PyData × PyData => Val.d (.tuple [p.1, p.2])) (xs.zip ys) (fun l en S => l.length ≤ xs.length ∧ I l.length en S) (fun l en S h => hok _ _ _ h.2) ?_ (fun en S h => fin _ _ (by have h2 := h.2; rw [List.length_zip, ← hl, Nat.min_self] at h2; exact h2)) ⟨Nat.zero_le _, h0⟩
  rintro l x r en S e ⟨e2, h⟩
  have z1 : (xs.zip ys)[l.length]? = some x := by rw [e]; simp
  obtain ⟨z2, z3⟩ := List.getElem?_zip_eq_some.mp z1
  have z4 := (List.getElem?_eq_some_iff.mp z2).1
  obtain ⟨en', e3, h3⟩ := step l.length x.1 x.2 en S z2 z3 h
  exact ⟨en', e3, fun nx hn => h3 nx fun en S h4 => hn en S ⟨by simp; omega, by simpa using h4⟩⟩
end DL

set_option Elab.async false
set_option linter.all false
set_option maxRecDepth 100000
set_option maxHeartbeats 4000000
/-! DL27: a list of lists is given up. -/
namespace DL
open PySem PySem.Spec PyProof.Rows L2
/-- the items given up, one by one -/
def frzL : List Val → Sto → Option (List PyData × Sto)
  | [], S => some ([], S)
  | .d x :: ws, S => (frzL ws S).map fun p => (x :: p.1, p.2)
  | .r i :: ws, S => match S[i]? with
    | some (.lst us) => match dats us with
      | some xs => (frzL ws (S.set i .dead)).map fun p => (.list xs :: p.1, p.2)
      | none => none
    | _ => none
  | .s _ :: _, _ => none
theorem frz_gen {K : PySem.W.Frag} {m : Ids} {H : Hp} {S : Sto} {i : Nat} {a : Addr} {vs : List V} {xs : List PyData} (r : Rel K m H S) (hm : m.l[i]? = some (some a)) (h1 : H a = some (.lst vs)) (h2 : RDs K m H vs xs) :
    ∃ m', Ext m H m' H ∧ Rel K m' H (S.set i .dead) ∧ RD K m' H (.ref a) (.list xs) := by
  have hl : i < m.l.length := (List.getElem?_eq_some_iff.mp hm).1
  have sub : ∀ b, some b ∈ m.l.set i none → some b ∈ m.l := fun b hb => by
    rcases List.mem_or_eq_of_mem_set hb with z | z
    · exact z
    · cases z
  have E : Ext m H ⟨m.l.set i none, m.o⟩ H := ⟨fun b o q n => ⟨fun _ => q, fun z => n (sub b z)⟩, fun j x q => by
    by_cases hj : j = i
    · subst hj
      exact .inr (List.getElem?_set_self hl)
    · exact .inl (by rw [List.getElem?_set_ne (Ne.symm hj)]; exact q), ⟨fun _ q => q, fun _ q => .inl q⟩, fun _ o q => ⟨o, q⟩⟩
  have fa : Fr ⟨m.l.set i none, m.o⟩ a := by
    refine ⟨fun z => ?_, fun z => (r.out a z).2 (List.mem_of_getElem? hm)⟩
    obtain ⟨j, hj, q⟩ := List.getElem_of_mem z
    have q' : (m.l.set i none)[j]? = some (some a) := by rw [List.getElem?_eq_getElem hj, q]
    by_cases hji : j = i
    · subst hji
      rw [List.getElem?_set_self hl] at q'
      cases q'
    · rw [List.getElem?_set_ne (Ne.symm hji)] at q'
      exact hji (r.inj j i a q' hm)
  refine ⟨⟨m.l.set i none, m.o⟩, E, ?_, .lst h1 fa (RDs.mono E h2)⟩
  refine ⟨by simp [r.len], fun j1 j2 b q1 q2 => ?_, fun j x o q1 q2 => ?_, fun j q => ?_, fun j b q => ?_, fun b hb => ⟨(r.out b hb).1, fun z => (r.out b hb).2 (sub b z)⟩, r.tb.same fun q hq => ⟨fun z => (r.tb.fr q hq).1 (sub _ z), (r.tb.fr q hq).2⟩⟩
  · have old : ∀ j, (m.l.set i none)[j]? = some (some b) → m.l[j]? = some (some b) := fun j q => by
      by_cases hj : j = i
      · subst hj
        rw [List.getElem?_set_self hl] at q
        cases q
      · rw [List.getElem?_set_ne (Ne.symm hj)] at q
        exact q
    exact r.inj j1 j2 b (old j1 q1) (old j2 q2)
  · by_cases hj : j = i
    · subst hj
      rw [List.getElem?_set_self (by rw [← r.len]; exact hl)] at q2
      cases q2
      cases x <;> exact True.intro
    · rw [List.getElem?_set_ne (Ne.symm hj)] at q1 q2
      exact (r.ob j x o q1 q2).keep E fun _ _ _ _ q => q
  · by_cases hj : j = i
    · subst hj
      exact List.getElem?_set_self (by rw [← r.len]; exact hl)
    · rw [List.getElem?_set_ne (Ne.symm hj)] at q ⊢
      exact r.dd j q
  · by_cases hj : j = i
    · subst hj
      rw [List.getElem?_set_self hl] at q
      cases q
    · rw [List.getElem?_set_ne (Ne.symm hj)] at q
      exact r.tr j b q
theorem frzL_ok {K : PySem.W.Frag} {H : Hp} : ∀ {ws : List Val} {m : Ids} {S : Sto} {vs : List V} {xs : List PyData} {S' : Sto}, Rel K m H S → RVs K m H vs ws → frzL ws S = some (xs, S') → ∃ m', Ext m H m' H ∧ Rel K m' H S' ∧ RDs K m' H vs xs
  | [], m, S, _, xs, S', r, .nil, h => by
    unfold frzL at h
    cases h
    exact ⟨m, Ext.refl, r, .nil⟩
  | .d x :: ws, m, S, _, xs, S', r, .cons v vs, h => by
    unfold frzL at h
    cases e : frzL ws S with
    | none =>
      rw [e] at h
      cases h
    | some p =>
      rw [e] at h
      cases h
      obtain ⟨m', E, r', d⟩ := frzL_ok r vs e
      exact ⟨m', E, r', .cons (by cases v with | d v => exact v.mono E) d⟩
  | .r i :: ws, m, S, _, xs, S', r, .cons v vs, h => by
    unfold frzL at h
    split at h
    · rename_i us eu
      split at h
      · rename_i ys ey
        cases e : frzL ws (S.set i .dead) with
        | none =>
          rw [e] at h
          cases h
        | some p =>
          rw [e] at h
          cases h
          obtain ⟨a, rfl, hm, us2, h1, h2⟩ := v.obj r eu (by intro z; cases z)
          obtain ⟨m1, E1, r1, d1⟩ := frz_gen r hm h1 (dats_rel h2 ey)
          obtain ⟨m', E, r', d⟩ := frzL_ok r1 (RVs.mono E1 vs) e
          exact ⟨m', E1.trans E, r', .cons (d1.mono E) d⟩
      · cases h
    · cases h
  | .s _ :: _, _, _, _, _, _, _, .cons _ _, h => by
    unfold frzL at h
    cases h
def vFrzD (w : Val) (S : Sto) (k : KE) : Prop := match w with
  | .d x => k (.d x) S
  | .s _ => False
  | .r i => match S[i]? with
    | some (.lst ws) => match frzL ws S with
      | some (xs, S') => S'[i]? = some (.lst ws) ∧ k (.d (.list xs)) (S'.set i .dead)
      | none => False
    | _ => False
def wFrzD (F : WE) : WE := fun W en S k => F W en S fun w S1 => vFrzD w S1 k
theorem frzD_ok {K : PySem.W.Frag} {m : Ids} {H : Hp} {S : Sto} {v : V} {w : Val} {k : KE} (r : Rel K m H S) (h : RV K m H v w) (f : vFrzD w S k) : Post K m H k v H := by
  unfold vFrzD at f
  split at f
  · exact Post.here r h f
  · exact f.elim
  · rename_i i
    split at f
    · rename_i ws e
      obtain ⟨a, rfl, hm, vs, h1, h2⟩ := h.obj r e (by intro z; cases z)
      split at f
      · rename_i xs S' ef
        obtain ⟨f1, f2⟩ := f
        obtain ⟨m1, E1, r1, d1⟩ := frzL_ok r h2 ef
        have hm1 : m1.l[i]? = some (some a) := by
          rcases E1.ids i _ hm with q | q
          · exact q
          · have := r1.dd i q
            rw [f1] at this
            cases this
        obtain ⟨m2, E2, r2, d2⟩ := frz_gen r1 hm1 h1 d1
        exact ⟨m2, _, _, E1.trans E2, r2, .d d2, f2⟩
      · exact f.elim
    · exact f.elim
section
variable {X : Cx} {e : Expr} {F : WE} {W : XQ} {en : Env} {S : Sto} {k : KE} {d : PyData}
theorem de_frzD (h : DE X e F) : DE X e (wFrzD F) := by
  refine ⟨fun B W tk => ⟨fun pins s st H Q I ⟨m, en, S, k, g, f, q⟩ => (h.go B W tk).run pins s st H Q I ⟨m, en, S, _, g, f, fun v H1 p1 => ?_⟩⟩⟩
  obtain ⟨m1, S1, w1, e1, r1, v1, h1⟩ := p1
  exact q v H1 ((frzD_ok r1 v1 h1).tr e1)
instance : Stp (wFrzD F W en S k) (F W en S fun w S1 => vFrzD w S1 k) := ⟨id⟩
instance : Stp (vFrzD (.d d) S k) (k (.d d) S) := ⟨id⟩
end
theorem v_frzD2 {S S' : Sto} {k : KE} {i : Nat} {ws : List Val} {xs : List PyData} (e : S[i]? = some (.lst ws)) (h1 : frzL ws S = some (xs, S')) (h2 : S'[i]? = some (.lst ws)) (h : k (.d (.list xs)) (S'.set i .dead)) : vFrzD (.r i) S k := by
  unfold vFrzD
  simp only [e, h1]
  exact ⟨h2, h⟩
/-! ### a slot's list is given up ahead of a statement -/
def wFz (i : Nat) (F : WS) : WS := fun W dn en S => ∃ j ws xs, (en[i]?).join = some (.r j) ∧ S[j]? = some (.lst ws) ∧ dats ws = some xs ∧ F W dn (en.set i (some (.d (.list xs)))) (S.set j .dead)
section
variable {X : Cx} {st : Stmt} {F : WS}
theorem ds_fz {i : Nat} (h : DS X st F) : DS X st (wFz i F) := by
  refine ⟨fun B W tk => ⟨fun pins s σ H D I ⟨m, en, S, dn, g, f, q1, q2, q3, q4⟩ => ?_⟩⟩
  obtain ⟨j, ws, xs, e1, e2, e3, f⟩ := f
  obtain ⟨v, h1, h2⟩ := g.env.at_ i _ (join_some e1)
  obtain ⟨a, rfl, hm, vs, h3, h4⟩ := h2.obj g.rel e2 (by intro z; cases z)
  obtain ⟨m', E, r', d⟩ := frz_gen g.rel hm h3 (dats_rel h4 e3)
  refine (h.go B W tk).run pins s σ H D I ⟨m', _, _, dn, ⟨g.ex.trans E, r', ?_⟩, f, fun st' H' p => q1 st' H' (p.tr E), fun v' H' p => q2 v' H' (p.tr E), fun st' H' p => q3 st' H' (p.tr E), fun st' H' p => q4 st' H' (p.tr E)⟩
  have ge := g.env.mono E
  refine ⟨by rw [List.length_set]; exact ge.len, fun i' w hw => ?_⟩
  by_cases hi : i' = i
  · subst hi
    have hl : i' < en.length := by
      have := join_some e1
      exact (List.getElem?_eq_some_iff.mp this).1
    rw [List.getElem?_set_self hl] at hw
    cases hw
    exact ⟨.ref a, h1, .d d⟩
  · rw [List.getElem?_set_ne (Ne.symm hi)] at hw
    exact ge.at_ i' w hw
end
section
variable {W : XQ} {dn : DN} {en : Env} {S : Sto} {i j : Nat} {F : WS} {ws : List Val} {xs : List PyData} {f : Option Val → Env} {g : Ob → Sto}
instance [p : Get en i (.r j)] [q : StG S j (.lst ws)] [d : Dat ws xs] [r : Put en i f] [s : StP S j g] : Stp (wFz i F W dn en S) (F W dn (f (some (.d (.list xs)))) (g .dead)) := ⟨fun h => ⟨j, ws, xs, p.eq, q.eq, d.eq, by rw [r.eq, s.eq]; exact h⟩⟩
end
end DL

set_option Elab.async false
set_option linter.all false
set_option maxRecDepth 100000
set_option maxHeartbeats 4000000
/-! DL28: dicts: made empty, setdefault. -/
namespace DL
open PySem PySem.Spec PyProof.Rows L2
abbrev Kvs := List (Key × Val)
def valW (kvs : Kvs) (k : Key) : Option Val := (kvs.find? fun kv => decide (kv.1 = k)).map (·.2)
abbrev RKv (K : PySem.W.Frag) (m : Ids) (H : Hp) : List (Key × V) → Kvs → Prop := Paired (fun (p : Key × V) (q : Key × Val) => p.1 = q.1 ∧ RV K m H p.2 q.2)
theorem rkv_len {K : PySem.W.Frag} {m : Ids} {H : Hp} : ∀ {vs : List (Key × V)} {kvs : Kvs}, RKv K m H vs kvs → vs.length = kvs.length
  | _, _, .nil => rfl
  | _, _, .cons _ t => congrArg (· + 1) (rkv_len t)
theorem rkv_val {K : PySem.W.Frag} {m : Ids} {H : Hp} {k : Key} : ∀ {vs : List (Key × V)} {kvs : Kvs}, RKv K m H vs kvs → (valV vs k = none ∧ valW kvs k = none) ∨ ∃ v w, valV vs k = some v ∧ valW kvs k = some w ∧ RV K m H v w
  | _, _, .nil => .inl ⟨rfl, rfl⟩
  | p :: vs, q :: kvs, .cons h t => by
    by_cases e : p.1 = k
    · have e2 : q.1 = k := by rw [← h.1]; exact e
      refine .inr ⟨p.2, q.2, valV_pos e, ?_, h.2⟩
      simp [valW, List.find?_cons, e2]
    · have e2 : ¬ q.1 = k := by rw [← h.1]; exact e
      have e3 : valW (q :: kvs) k = valW kvs k := by simp [valW, List.find?_cons, e2]
      rw [valV_neg e, e3]
      exact rkv_val t
theorem putK_new : ∀ {kvs : List (Key × V)} {k : Key} {v : V}, valV kvs k = none → putK kvs k v = kvs ++ [(k, v)] := by
  intro kvs k v h
  unfold putK
  rw [if_neg]
  intro z
  obtain ⟨p, h1, h2⟩ := List.any_eq_true.mp z
  unfold valV at h
  rw [Option.map_eq_none_iff, List.find?_eq_none] at h
  exact h p h1 h2
theorem rkv_app {K : PySem.W.Frag} {m : Ids} {H : Hp} : ∀ {vs us : List (Key × V)} {kvs lvs : Kvs}, RKv K m H vs kvs → RKv K m H us lvs → RKv K m H (vs ++ us) (kvs ++ lvs)
  | _, _, _, _, .nil, h => h
  | _, _, _, _, .cons h t, h' => .cons h (rkv_app t h')
def keyD : PyData → Option Key
  | .int i => some (.inl i)
  | .str x => some (.inr x)
  | _ => none
theorem keyD_rel {K : PySem.W.Frag} {m : Ids} {H : Hp} {v : V} {d : PyData} {k : Key} (h : RD K m H v d) (e : keyD d = some k) : v = kV k := by
  cases h <;> cases e <;> rfl
def wDct : WE := fun _ _ S k => k (.r S.length) (S ++ [.dct []])
def isDct (S : Sto) : Val → Prop
  | .r i => ∃ kvs, S[i]? = some (.dct kvs)
  | _ => False
def vSetd (o y z : Val) (S : Sto) (k : KE) : Prop := match o, y with
  | .r i, .d d => match S[i]? with
    | some (.dct kvs) => match keyD d with
      | some c => kvs.length < 1000000 ∧ match valW kvs c with
        | some u => k u S
        | none => k z (S.set i (.dct (kvs ++ [(c, z)])))
      | none => False
    | _ => False
  | _, _ => False
def setdK (Fk Fv : WE) (W : XQ) (en : Env) (k : KE) : KE := fun o S1 => isDct S1 o ∧ Fk W en S1 fun y S2 => Fv W en S2 fun z S3 => vSetd o y z S3 k
def wSetd (Fo Fk Fv : WE) : WE := fun W en S k => Fo W en S (setdK Fk Fv W en k)
theorem post_newO {K : PySem.W.Frag} {m : Ids} {H : Hp} {S : Sto} {k : KE} {Q : VK} {o : HO} {ob : Ob} (r : Rel K m H S) (h : ∀ p, H p = none → RO K (m.add p) (upd H p o) (some p) ob) (hk : k (.r S.length) (S ++ [ob])) (q : ∀ v H', Post K m H k v H' → Q v H') (p : Addr) (hp : H p = none) : Q (.ref p) (upd H p o) := by
  refine q _ _ ⟨m.add p, S ++ [ob], _, Ext.push hp, r.push hp (h p hp), .r ?_, hk⟩
  show (m.l ++ [some p])[S.length]? = some (some p)
  rw [← r.len]
  simp
section
variable {X : Cx} {pos apos cpos : Pos} {o e f : Expr} {Fo Fk Fv : WE}
theorem de_dct : DE X (.Dict [] [] pos) wDct := by
  refine ⟨fun B W tk => ⟨fun pins s st H Q I ⟨m, en, S, k, g, fk, q⟩ => pe_dnewK.run pins s st H Q I ?_⟩⟩
  exact post_newO (ob := .dct []) g.rel (fun p hp => ⟨[], upd_same, .nil⟩) fk q
theorem de_setd (ho : DE X o Fo) (he : DE X e Fk) (hf : DE X f Fv) (base : attributeBase o "setdefault" X.env (eval o X.env) = eval o X.env := by rfl)
    (few : ((backTo cpos (starEach [e, f] X.env)).all (fun x => !x.1) && (backToKw cpos (keywordEach [] X.env)).all (fun x => x.1.isSome)
    && decide (([e, f] : List Expr).length + ([] : List Keyword).length + (if ([] : List Keyword).isEmpty then 0 else 1) < 30)) = true := by rfl)
    (line : (apos.endLine == cpos.line) = true := by rfl) (trees : backTo cpos (starEach [e, f] X.env) = [(false, eval e X.env), (false, eval f X.env)] := by rfl) : DE X (.Call (.Attribute o "setdefault" apos) [e, f] [] cpos) (wSetd Fo Fk Fv) := by
  refine ⟨fun B W tk => ⟨fun pins s st H Q I ⟨m, en, S, k, g, fk, q⟩ => (pe_dsetd (ho.go B W tk) (he.go B W tk) (hf.go B W tk) ⟨base, few, line, trees⟩).run pins s st H Q I ?_⟩⟩
  refine ⟨m, en, S, _, g, fk, fun x H1 p1 => ?_⟩
  obtain ⟨m1, S1, w1, e1, r1, v1, d1, h1⟩ := p1
  cases w1 with
  | r i =>
    obtain ⟨kvs, ek⟩ := d1
    obtain ⟨a, rfl, hm, vs, g1, g2⟩ := v1.obj r1 ek (by intro z; cases z)
    refine ⟨a, rfl, .inl ⟨vs, .inl g1⟩, m1, en, S1, _, g.next e1 r1, h1, fun y H2 p2 => ?_⟩
    obtain ⟨m2, S2, w2, e2, r2, v2, h2⟩ := p2
    refine ⟨m2, en, S2, _, (g.next e1 r1).next e2 r2, h2, fun z H3 p3 => ?_⟩
    obtain ⟨m3, S3, w3, e3, r3, v3, h3⟩ := p3
    unfold vSetd at h3
    have vo : RV X.K m3 H3 (.ref a) (.r i) := ((RV.r hm).mono e2).mono e3
    cases w2 with
    | d d =>
      simp only at h3
      split at h3
      · rename_i kvs3 ek3
        split at h3
        · rename_i c ec
          obtain ⟨hl, h3⟩ := h3
          obtain ⟨a', ea, hm3, vs3, g3, g4⟩ := vo.obj r3 ek3 (by intro z; cases z)
          cases ea
          have vy : RD X.K m3 H3 y d := by
            cases v2 with
            | d v2 => exact v2.mono e3
          have E : Ext m H m3 H3 := (e1.trans e2).trans e3
          refine ⟨vs3, c, g3, keyD_rel vy ec, by rw [rkv_len g4]; exact line6' hl, fun v hv => ?_, fun hv => ?_⟩
          · rcases rkv_val (k := c) g4 with ⟨q1, q2⟩ | ⟨v', w', q1, q2, q3⟩
            · rw [q1] at hv
              cases hv
            · rw [q1] at hv
              cases hv
              simp only [q2] at h3
              exact q _ _ ⟨m3, S3, _, E, r3, q3, h3⟩
          · rcases rkv_val (k := c) g4 with ⟨q1, q2⟩ | ⟨v', w', q1, q2, q3⟩
            · simp only [q2] at h3
              rw [putK_new hv]
              have Es : Ext m3 H3 m3 (upd H3 a (.dK (vs3 ++ [(c, z)]))) := Ext.set hm3
              refine q _ _ ⟨m3, S3.set i (.dct (kvs3 ++ [(c, w3)])), _, E.trans Es, r3.set hm3 ⟨_, upd_same, ?_⟩ (fun u hu φ z => by rw [g3] at hu; cases hu; cases z), v3.mono Es, h3⟩
              exact pair_mono Es (rkv_app g4 (.cons ⟨rfl, v3⟩ .nil))
            · rw [q1] at hv
              cases hv
        · exact h3.elim
      · exact h3.elim
    | _ => exact h3.elim
  | _ => exact d1.elim
end
section
variable {W : XQ} {en : Env} {S : Sto} {k : KE} {Fo Fk Fv : WE} {i n : Nat} {f : Ob → Sto} {kvs : Kvs} {x : Str} {z : Val}
instance [q : Ln S n] [s : Snc S f] : Stp (wDct W en S k) (k (.r n) (f (.dct []))) := ⟨fun h => by
  show k (.r S.length) (S ++ [.dct []])
  rw [q.eq, s.eq]
  exact h⟩
instance : Stp (wSetd Fo Fk Fv W en S k) (Fo W en S (setdK Fk Fv W en k)) := ⟨id⟩
instance [p : StG S i (.dct kvs)] : Stp (setdK Fk Fv W en k (.r i) S) (Fk W en S fun y S2 => Fv W en S2 fun z S3 => vSetd (.r i) y z S3 k) := ⟨fun h => ⟨⟨kvs, p.eq⟩, h⟩⟩
theorem v_setd [p : StG S i (.dct kvs)] [s : StP S i f] (hl : kvs.length < 1000000) (h1 : ∀ u, valW kvs (.inr x) = some u → k u S) (h2 : valW kvs (.inr x) = none → k z (f (.dct (kvs ++ [(.inr x, z)])))) : vSetd (.r i) (.d (.str x)) z S k := by
  unfold vSetd
  simp only [p.eq, keyD]
  refine ⟨hl, ?_⟩
  cases e : valW kvs (.inr x) with
  | some u => exact h1 u e
  | none =>
    have h2 := h2 e
    rw [← s.eq] at h2
    exact h2
end
end DL

set_option Elab.async false
set_option linter.all false
set_option maxRecDepth 100000
set_option maxHeartbeats 4000000
/-! DL39: one of two promises; a draw beside a list that is changed elsewhere. -/
namespace DL
open PySem PySem.Spec PyProof.Rows L2
def orSp (a b : Spec) : Spec := ⟨a.n, a.γ ⊕ b.γ, fun g ws S => match g with
  | .inl g => a.pre g ws S
  | .inr g => b.pre g ws S, fun g w S => match g with
  | .inl g => a.post g w S
  | .inr g => b.post g w S, fun g x S => match g with
  | .inl g => a.exc g x S
  | .inr g => b.exc g x S, a.x⟩
section
variable {a b : Spec} {ws : List Val} {S : Sto} {k : KE} {kx : Exc → Sto → Prop}
theorem callF_inl (h : callF a ws S k kx) : callF (orSp a b) ws S k kx := by
  unfold callF at h ⊢
  refine ⟨h.1, ?_⟩
  have h2 := h.2
  cases e : frame S (refsOf ws) with
  | none => rw [e] at h2; exact h2.elim
  | some T =>
    rw [e] at h2
    obtain ⟨g, h3, h4, h5⟩ := h2
    exact ⟨.inl g, h3, h4, h5⟩
theorem callF_inr (h : callF b ws S k kx) (hn : b.n = a.n := by rfl) : callF (orSp a b) ws S k kx := by
  unfold callF at h ⊢
  refine ⟨h.1.trans hn, ?_⟩
  have h2 := h.2
  cases e : frame S (refsOf ws) with
  | none => rw [e] at h2; exact h2.elim
  | some T =>
    rw [e] at h2
    obtain ⟨g, h3, h4, h5⟩ := h2
    exact ⟨.inr g, h3, h4, h5⟩
theorem keeps_or {N : List Str} {G : WS} (ha : Keeps N a G) (hb : Keeps N b G) (hn : b.n = a.n := by rfl) (hx : b.x = a.x := by rfl) : Keeps N (orSp a b) G := by
  intro g ws S hl hp
  cases g with
  | inl g => exact ha g ws S hl hp
  | inr g =>
    have h := hb g ws S (hl.trans hn.symm) hp
    have e : endRt (orSp a b) (.inr g) S.length = endRt b g S.length := by
      funext w S'
      unfold endRt
      show (trimOk (S.length + a.x) w S' ∧ b.post g w (S'.take (S.length + a.x))) = _
      rw [hx]
    rw [e]
    exact h
end
section
variable {S : Sto} {i j : Nat} {o o' : Ob}
theorem frame_two {p : Ob} (h1 : S[i]? = some o) (h2 : S[j]? = some p) (p1 : obPure o = true) (p2 : obPure p = true) : frame S [i, j] = some [o, p] := by
  unfold frame
  rw [h1]
  simp only [p1, if_true]
  unfold frame
  rw [h2]
  simp only [p2, if_true]
  unfold frame
  rfl
theorem back_two {p : Ob} (h2 : S[j]? = some p) (ne : i ≠ j) : back S [i, j] [o', p] = S.set i o' := by
  unfold back putAll putAll putAll
  simp only [List.length_cons, List.length_nil, List.drop_succ_cons, List.drop_zero, List.drop_nil, List.append_nil]
  have : (S.set i o')[j]? = some p := by rw [List.getElem?_set_ne ne]; exact h2
  exact List.ext_getElem? fun n => by
    by_cases hn : n = j
    · subst hn
      rw [List.getElem?_set_self (List.getElem?_eq_some_iff.mp this).1, this]
    · rw [List.getElem?_set_ne (Ne.symm hn)]
theorem refs_two (ne : i ≠ j) : refsOf [.r i, .r j] = [i, j] := by
  unfold refsOf
  rw [refsOf, refsOf]
  simp [Ne.symm ne]
theorem pure_d (l : List PyData) : obPure (.lst (l.map Val.d)) = true := by
  show (l.map Val.d).all valPure = true
  rw [List.all_map, List.all_eq_true]
  intro x _
  rfl
end
end DL

set_option Elab.async false
set_option linter.all false
set_option maxRecDepth 100000
set_option maxHeartbeats 4000000
/-! Z0: the source of drawn numbers; whole numbers. -/
namespace DL
open PySem PySem.Spec PyProof.Rows L2
local macro_rules | `(tactic| walk_at "dc") => `(tactic| (first | with_reducible exact True.intro | with_reducible exact mulL (by decide) | with_reducible exact mulR (by decide) | with_reducible exact mulL (by omega) | with_reducible exact mulR (by omega) | with_reducible assumption | omega | decide | exact ⟨by decide, by decide⟩ | (refine ⟨?_, ?_⟩ <;> first | with_reducible assumption | decide +kernel) | (simp only [List.length_map, List.length_cons, List.length_nil, List.length_append, List.length_range, List.length_replicate, List.length_reverse]; omega)))
local macro_rules | `(tactic| walk_at "dl") => `(tactic| (repeat' (first | refine Stp.h ?_ | refine Stc.h (by walk_at "dc") ?_ | with_reducible (first | refine i_iteTr (by decide) ?_ | refine i_iteFr (by decide) ?_ | refine i_lcA (by decide) ?_ | refine ⟨o_lst (by with_unfolding_all rfl), ?_⟩) | dsimp only)))
local macro_rules | `(tactic| walk_at "dn") => `(tactic| (repeat' ((fail_if_success (with_reducible refine i_seq ?_)); first | refine Stp.h ?_ | refine Stc.h (by walk_at "dc") ?_ | with_reducible (first | refine i_iteTr (by decide) ?_ | refine i_iteFr (by decide) ?_ | refine i_lcA (by decide) ?_ | refine ⟨o_lst (by with_unfolding_all rfl), ?_⟩) | dsimp only)))
def wholeD : PyData → Bool
  | .int _ => true
  | _ => false
def sp_is_whole : Spec := pureSp 1 PyData (fun d => [d]) (fun _ => True) fun d => .bool (wholeD d)
def N_is_whole : List Str := ["thing"]
def G_is_whole : WS := (wRet (wAndV (wUn (vIsi "int") (wVar 0)) (wNotV (wUn (vIsi "bool") (wVar 0)))))

def sp_pool : Spec := ⟨2, List Int × Nat, fun g ws S => ws = [scr g.1, .d (.int g.2)] ∧ S = [] ∧ g.2 ≤ 1000, fun g w S => w = .r 0 ∧ ∃ o, S = [o] ∧ Src o, fun _ _ _ => False, 1⟩
def N_pool : List Str := ["script", "k", "cell", "big", "stirred"]
def G_pool : WS := (wSeq (wSet 2 (wC (.int 0)))
 (wSeq (wIf (wCmpT vLt (wVar 1) (wCB vLen (wCons (wVar 0) wNil)))
  (wSet 2 (wOp vIx (wVar 0) (wVar 1))) (wIf (wTru (wVar 0))
   (wSet 2 (wOp vIx (wVar 0) (wC (.int 0)))) wSkip))
 (wSeq (wSet 3 (wCB vMax2 (wCons (wCB vInt (wCons (wVar 2) wNil)) (wCons (wCB vInt (wCons (wOp vSub (wUn vNeg (wC (.int 1))) (wVar 2)) wNil)) wNil))))
 (wSeq (wSet 4 (wOp vMod (wCB vInt (wCons (wOp vMul (wOp vAdd (wOp vAdd (wOp vAdd (wOp vMod (wCB vInt (wCons (wVar 3) wNil)) (wC (.int 2147483629))) (wOp vMul (wOp vMul (wC (.int 7919)) (wVar 1)) (wVar 1))) (wOp vMul (wC (.int 31)) (wVar 1))) (wC (.int 17))) (wC (.int 48271))) wNil)) (wC (.int 2147483647))))
 (wRet (wLstM (wCons (wOp vMul (wVar 3) (wCB vInt (wCons (wOp vGe (wVar 3) (wOp vPow (wC (.int 10)) (wC (.int 18)))) wNil))) (wCons (wVar 4) wNil))))))))

def sp_take : Spec := genSp 2 Int (fun t => [.int t]) (fun t => 0 < t ∧ t < 18446744073709551616) fun t d => ∃ i, d = .int i ∧ 0 ≤ i ∧ i < t
def N_take : List Str := ["source", "top", "digit"]
def G_take : WS := (wSeq (wIf (wCmpT vGt (wOp vIx (wVar 0) (wC (.int 0))) (wC (.int 0)))
  (wSeq (wSet 2 (wOp vMod (wCB vInt (wCons (wOp vIx (wVar 0) (wC (.int 0))) wNil)) (wVar 1)))
  (wSeq (wStore (wVar 0) (wC (.int 0)) (wOp vFdiv (wOp vIx (wVar 0) (wC (.int 0))) (wVar 1)))
  (wRet (wVar 2)))) wSkip)
 (wSeq (wStore (wVar 0) (wC (.int 1)) (wOp vMod (wCB vInt (wCons (wOp vAdd (wOp vMul (wOp vIx (wVar 0) (wC (.int 1))) (wC (.int 39373))) (wC (.int 7))) wNil)) (wC (.int 2147483647))))
 (wRet (wOp vMod (wCB vInt (wCons (wOp vFdiv (wOp vMod (wCB vInt (wCons (wOp vMul (wOp vIx (wVar 0) (wC (.int 1))) (wOp vIx (wVar 0) (wC (.int 1)))) wNil)) (wC (.int 2147483629))) (wC (.int 32))) wNil)) (wVar 1)))))

def seqOf : PyData → List PyData
  | .list l => l
  | .tuple l => l
  | _ => []
def sp_oneM : Spec := ⟨2, List PyData, fun l ws S => ws = [.r 0, .r 1] ∧ (∃ o, S = [o, .lst (l.map Val.d)] ∧ Src o) ∧ l ≠ [] ∧ l.length ≤ 1000000, fun l w S => (∃ d, w = .d d ∧ d ∈ l) ∧ ∃ o, S = [o, .lst (l.map Val.d)] ∧ Src o, fun _ _ _ => False, 0⟩
def sp_oneD : Spec := genSp 2 PyData (fun t => [t]) (fun t => (∃ l, t = .list l ∨ t = .tuple l) ∧ seqOf t ≠ [] ∧ (seqOf t).length ≤ 1000000) fun t d => d ∈ seqOf t
def sp_one : Spec := orSp sp_oneD sp_oneM
def N_one : List Str := ["source", "things"]
def G_one : WS := (wRet (wOp vIx (wVar 1) (wCall sp_take (wCons (wVar 0) (wCons (wCB vLen (wCons (wVar 1) wNil)) wNil)))))

section
variable {S : Sto} {k : KE} {kx : Exc → Sto → Prop}
theorem keeps_is_whole : Keeps N_is_whole sp_is_whole G_is_whole := keeps_pure fun W dn d _ hr _ => by
  (unfold G_is_whole N_is_whole; simp only [startE, List.map_cons, List.map_nil, List.length_cons, List.length_nil, List.cons_append, List.nil_append, Nat.reduceAdd, Nat.reduceSub, List.replicate_succ, List.replicate_zero])
  walk_at "dl"
  cases d <;> exact hr _
instance call_is_whole {x : PyData} : Stp (callF sp_is_whole [.d x] S k kx) (k (.d (.bool (wholeD x))) S) := ⟨fun h => call_pure x rfl trivial h⟩
theorem keeps_take : Keeps N_take sp_take G_take := keeps_gen fun W dn t a b ht ha hb hb2 hr => by
  (unfold G_take N_take; simp only [startE, List.map_cons, List.map_nil, List.length_cons, List.length_nil, List.cons_append, List.nil_append, Nat.reduceAdd, Nat.reduceSub, List.replicate_succ, List.replicate_zero])
  obtain ⟨t1, t2⟩ := ht
  walk_at "dl"
  refine i_ite (fun e => ?_) (fun e => ?_)
  · walk_at "dl"
    exact hr _ _ _ ⟨_, rfl, Int.emod_nonneg _ (by omega), Int.emod_lt_of_pos _ t1⟩ (src_mk (Int.ediv_nonneg ha (by omega)) hb hb2)
  · walk_at "dl"
    have z1 : 0 ≤ (b * 39373 + 7) % 2147483647 := Int.emod_nonneg _ (by omega)
    have z2 : (b * 39373 + 7) % 2147483647 < 2147483647 := Int.emod_lt_of_pos _ (by omega)
    walk_at "dl"
    exact hr _ _ _ ⟨_, rfl, Int.emod_nonneg _ (by omega), Int.emod_lt_of_pos _ t1⟩ (src_mk ha z1 z2)
/-- any draw of the source at i -/
theorem call_genF {n : Nat} {γ : Type} {args : γ → List PyData} {ok : γ → Prop} {R : γ → PyData → Prop} {i : Nat} {o : Ob} {f : Ob → Sto} [p : StG S i o] [s : StP S i f] (g : γ) (h : ok g) (q : ∀ d o', R g d → Src o' → k (.d d) (f o')) (ho : Src o := by assumption) (hn : (args g).length + 1 = n := by rfl) : callF (genSp n γ args ok R) (.r i :: (args g).map Val.d) S k kx :=
  call_gen g hn p.eq ho h fun d o' hd ho' => by
    rw [s.eq]
    exact q d o' hd ho'
/-- a draw of the source at i -/
theorem call_take {i : Nat} {o : Ob} {t : Int} {f : Ob → Sto} [p : StG S i o] [s : StP S i f] (q : ∀ (n : Int) (o' : Ob), 0 ≤ n → n < t → Src o' → k (.d (.int n)) (f o')) (ho : Src o := by assumption) (h : 0 < t ∧ t < 18446744073709551616 := by omega) : callF sp_take [.r i, .d (.int t)] S k kx :=
  call_genF t h (fun d o' hd ho' => by
    obtain ⟨n, rfl, h1, h2⟩ := hd
    exact q n o' h1 h2 ho') ho
theorem keeps_pool : Keeps N_pool sp_pool G_pool := by
  rintro ⟨ns, p⟩ ws S hl ⟨rfl, rfl, hp⟩
  dsimp only at hp
  have key : ∀ (W : XQ) (dn : DN), (∀ o, Src o → dn.rt (.r 0) [o]) → G_pool W dn (startE N_pool [scr ns, .d (.int p)]) [] := by
    intro W dn hr
    (unfold G_pool N_pool; simp only [startE, List.map_cons, List.map_nil, List.length_cons, List.length_nil, List.cons_append, List.nil_append, Nat.reduceAdd, Nat.reduceSub, List.replicate_succ, List.replicate_zero])
    have fin : ∀ c : Int, dn.rt (.r 0) [.lst [.d (.int ((if -1 - c > c then -1 - c else c) * if decide (10 ^ Int.toNat 18 ≤ if -1 - c > c then -1 - c else c) = true then 1 else 0)),
        .d (.int (((if -1 - c > c then -1 - c else c) % 2147483629 + 7919 * (p : Int) * p + 31 * p + 17) * 48271 % 2147483647))]] := fun c => by
      refine hr _ (src_mk ?_ (Int.emod_nonneg _ (by omega)) (Int.emod_lt_of_pos _ (by omega)))
      refine Int.mul_nonneg ?_ ?_
      · split <;> omega
      · (repeat' split) <;> decide
    walk_at "dl"
    refine i_ite (fun e => ?_) (fun e => ?_)
    · have hlt : p < ns.length := by
        simp at e
        omega
      walk_at "dl"
      refine v_ixSm (n := p) rfl (List.getElem?_eq_getElem hlt) ?_
      walk_at "dl"
      exact fin _
    · walk_at "dl"
      refine i_ite (fun e2 => ?_) (fun e2 => ?_)
      · cases ns with
        | nil => simp at e2
        | cons n ns =>
          walk_at "dl"
          refine v_ixSm (n := 0) (x := n) rfl rfl ?_
          walk_at "dl"
          exact fin _
      · walk_at "dl"
        exact fin _
  refine key _ _ fun o ho => ⟨⟨?_, ?_⟩, rfl, o, rfl, ho⟩
  · show ([o].take 1).all obPure = true
    simp [src_pure ho]
  · show 0 < 1
    decide
theorem call_pool {ns : List Int} {p : Nat} (hp : p ≤ 1000) (q : ∀ o, Src o → k (.r S.length) (S ++ [o])) : callF sp_pool [scr ns, .d (.int p)] S k kx := by
  refine ⟨rfl, (ns, p), ⟨rfl, rfl, hp⟩, ?_, fun x T' z => z.elim⟩
  rintro w T' ⟨rfl, o, rfl, ho⟩
  refine ⟨by simp, by simp [src_pure ho], ?_⟩
  have e1 : back S [] [o] = S ++ [o] := by
    unfold back
    simp [putAll]
  show k (emb [] S.length (.r 0)) (back S [] [o])
  rw [e1]
  exact q o ho
theorem keeps_oneD : Keeps N_one sp_oneD G_one := keeps_gen fun W dn t a b ht ha hb hb2 hr => by
  (unfold G_one N_one; simp only [startE, List.map_cons, List.map_nil, List.length_cons, List.length_nil, List.cons_append, List.nil_append, Nat.reduceAdd, Nat.reduceSub, List.replicate_succ, List.replicate_zero])
  obtain ⟨⟨l, hl⟩, h1, h2⟩ := ht
  have es : seqOf t = l := by rcases hl with rfl | rfl <;> rfl
  rw [es] at h1 h2
  have hp : 0 < l.length := List.length_pos_iff.mpr h1
  rcases hl with rfl | rfl
  · walk_at "dl"
    refine call_take (fun n o' n1 n2 ho => ?_) (src_mk ha hb hb2)
    obtain ⟨m, rfl⟩ := Int.eq_ofNat_of_zero_le n1
    have hm : m < l.length := by omega
    refine v_ixL (itm_of (n := m) rfl (List.getElem?_eq_getElem hm)) ?_
    walk_at "dl"
    exact hr _ _ _ (List.getElem_mem hm) ho
  · walk_at "dl"
    refine call_take (fun n o' n1 n2 ho => ?_) (src_mk ha hb hb2)
    obtain ⟨m, rfl⟩ := Int.eq_ofNat_of_zero_le n1
    have hm : m < l.length := by omega
    refine v_ixT (itm_of (n := m) rfl (List.getElem?_eq_getElem hm)) ?_
    walk_at "dl"
    exact hr _ _ _ (List.getElem_mem hm) ho
theorem keeps_oneM : Keeps N_one sp_oneM G_one := by
  refine fun (l : List PyData) ws S hl h => ?_
  obtain ⟨rfl, ⟨o, rfl, ho⟩, h1, h2⟩ := h
  have hp : 0 < l.length := List.length_pos_iff.mpr h1
  have key : ∀ (W : XQ) (dn : DN), (∀ d o', d ∈ l → Src o' → dn.rt (.d d) [o', .lst (l.map Val.d)]) → G_one W dn (startE N_one [.r 0, .r 1]) [o, .lst (l.map Val.d)] := by
    intro W dn hr
    (unfold G_one N_one; simp only [startE, List.map_cons, List.map_nil, List.length_cons, List.length_nil, List.cons_append, List.nil_append, Nat.reduceAdd, Nat.reduceSub, List.replicate_succ, List.replicate_zero])
    walk_at "dl"
    rw [List.length_map]
    refine call_take (fun n o' n1 n2 ho => ?_) ho
    obtain ⟨m, rfl⟩ := Int.eq_ofNat_of_zero_le n1
    have hm : m < l.length := by omega
    refine v_ixM (w := .d l[m]) (ws := l.map Val.d) (by with_unfolding_all rfl) (itm_of (n := m) rfl (by rw [List.getElem?_map, List.getElem?_eq_getElem hm]; rfl)) ?_
    walk_at "dl"
    exact hr _ _ (List.getElem_mem hm) ho
  refine key _ _ fun d o' hd ho' => ⟨⟨?_, True.intro⟩, ⟨d, rfl, hd⟩, o', rfl, ho'⟩
  show ([o', Ob.lst (l.map Val.d)].take 2).all obPure = true
  simp [src_pure ho', pure_d]
theorem keeps_one : Keeps N_one sp_one G_one := keeps_or keeps_oneD keeps_oneM
/-- a draw out of a list that is changed elsewhere -/
theorem call_oneMl {i j : Nat} {o : Ob} {l : List PyData} {f : Ob → Sto} [p : StG S i o] [p2 : StG S j (.lst (l.map Val.d))] [s : StP S i f] (ne : i ≠ j) (h : l ≠ [] ∧ l.length ≤ 1000000) (q : ∀ (d : PyData) (o' : Ob), d ∈ l → Src o' → k (.d d) (f o')) (ho : Src o := by assumption) : callF sp_one [.r i, .r j] S k kx := by
  refine callF_inr ⟨rfl, ?_⟩
  rw [refs_two ne, frame_two p.eq p2.eq (src_pure ho) (pure_d l)]
  refine ⟨l, ⟨?_, ⟨o, rfl, ho⟩, h⟩, ?_, fun x T' z => z.elim⟩
  · have e : (i == j) = false := by simpa using ne
    simp [ren, List.idxOf_cons, e]
  · rintro w T' ⟨⟨d, rfl, hd⟩, o', rfl, ho'⟩
    refine ⟨Nat.le_refl _, by simp [src_pure ho', pure_d], ?_⟩
    show k (.d d) (back S [i, j] [o', .lst (l.map Val.d)])
    rw [back_two p2.eq ne, s.eq]
    exact q d o' hd ho'
theorem call_oneL {i : Nat} {o : Ob} {l : List PyData} {f : Ob → Sto} [p : StG S i o] [s : StP S i f] (h : l ≠ [] ∧ l.length ≤ 1000000) (q : ∀ (d : PyData) (o' : Ob), d ∈ l → Src o' → k (.d d) (f o')) (ho : Src o := by assumption) : callF sp_one [.r i, .d (.list l)] S k kx :=
  callF_inl <| call_genF (PyData.list l) ⟨⟨l, .inl rfl⟩, h⟩ (fun d o' hd ho' => q d o' hd ho') ho
theorem call_oneT {i : Nat} {o : Ob} {l : List PyData} {f : Ob → Sto} [p : StG S i o] [s : StP S i f] (h : l ≠ [] ∧ l.length ≤ 1000000) (q : ∀ (d : PyData) (o' : Ob), d ∈ l → Src o' → k (.d d) (f o')) (ho : Src o := by assumption) : callF sp_one [.r i, .d (.tuple l)] S k kx :=
  callF_inl <| call_genF (PyData.tuple l) ⟨⟨l, .inr rfl⟩, h⟩ (fun d o' hd ho' => q d o' hd ho') ho
/-- a draw of what it says of all -/
theorem call_oneP {i : Nat} {o : Ob} {l : List PyData} {f : Ob → Sto} [p : StG S i o] [s : StP S i f] (P : PyData → Prop) (hp : ∀ d ∈ l, P d) (q : ∀ (d : PyData) (o' : Ob), P d → Src o' → k (.d d) (f o')) (ho : Src o := by assumption) (hne : l ≠ [] := by simp) (hl : l.length ≤ 1000000 := by simp) : callF sp_one [.r i, .d (.list l)] S k kx :=
  call_oneL ⟨hne, hl⟩ (fun d o' hd ho' => q d o' (hp d hd) ho') ho
end
end DL

set_option Elab.async false
set_option linter.all false
set_option maxRecDepth 100000
set_option maxHeartbeats 4000000
/-! Z1: hills. -/
namespace DL
open PySem PySem.Spec PyProof.Rows L2
local macro_rules | `(tactic| walk_at "dc") => `(tactic| (first | with_reducible exact True.intro | with_reducible exact mulL (by decide) | with_reducible exact mulR (by decide) | with_reducible exact mulL (by omega) | with_reducible exact mulR (by omega) | with_reducible assumption | omega | decide | exact ⟨by decide, by decide⟩ | (refine ⟨?_, ?_⟩ <;> first | with_reducible assumption | decide +kernel) | (simp only [List.length_map, List.length_cons, List.length_nil, List.length_append, List.length_range, List.length_replicate, List.length_reverse]; omega)))
local macro_rules | `(tactic| walk_at "dl") => `(tactic| (repeat' (first | refine Stp.h ?_ | refine Stc.h (by walk_at "dc") ?_ | with_reducible (first | refine i_iteTr (by decide) ?_ | refine i_iteFr (by decide) ?_ | refine i_lcA (by decide) ?_ | refine ⟨o_lst (by with_unfolding_all rfl), ?_⟩) | dsimp only)))
local macro_rules | `(tactic| walk_at "dn") => `(tactic| (repeat' ((fail_if_success (with_reducible refine i_seq ?_)); first | refine Stp.h ?_ | refine Stc.h (by walk_at "dc") ?_ | with_reducible (first | refine i_iteTr (by decide) ?_ | refine i_iteFr (by decide) ?_ | refine i_lcA (by decide) ?_ | refine ⟨o_lst (by with_unfolding_all rfl), ?_⟩) | dsimp only)))
structure Sg where
  a : Int
  b : Int
  s : List PyData
abbrev Sg.d (g : Sg) : PyData := .tuple [.int g.a, .int g.b, .tuple g.s]
abbrev rowD (l : List Sg) : PyData := .tuple (l.map Sg.d)
def nonneg : PyData → Bool
  | .int i => decide (0 ≤ i)
  | _ => false
def stepB : PyData → Bool
  | .tuple [x, y, .tuple _] => nonneg x && nonneg y
  | _ => false
def sp_is_step : Spec := pureSp 1 PyData (fun d => [d]) (fun _ => True) fun d => .bool (stepB d)
def N_is_step : List Str := ["thing", "number"]
def G_is_step : WS := (wSeq (wIf (wOr (wNot (wTru (wUn (vIsi "tuple") (wVar 0)))) (wOr (wCmpT vNe (wCB vLen (wCons (wVar 0) wNil)) (wC (.int 3))) (wNot (wTru (wUn (vIsi "tuple") (wOp vIx (wVar 0) (wC (.int 2))))))))
  (wRet (wC (.bool false))) wSkip)
 (wRet (wCB vAll (wCons (wLc [1] (.nm 1) (wItSeq (wSl vSl (wVar 0) wNoP (wP (wC (.int 2))))) wYes (wAndV (wCall sp_is_whole (wCons (wVar 1) wNil)) (wOp vGe (wVar 1) (wC (.int 0))))) wNil))))

def sp_last_place : Spec := pureSp 2 (List Int × Int) (fun g => [.list (g.1.map PyData.int), .int g.2]) (fun g => g.2 ∈ g.1 ∧ g.1.length ≤ 1000000) fun g => .int (lastAt (fun x => decide (x = g.2)) g.1 : Nat)
def N_last_place : List Str := ["numbers", "wanted"]
def G_last_place : WS := (wRet (wOp vSub (wOp vSub (wCB vLen (wCons (wVar 0) wNil)) (wC (.int 1))) (wBM "list" vIndex (wUn vRevA (wVar 0)) (wCons (wVar 1) wNil))))

def hillTop (l : List Sg) : Int := maxI (l.map (·.a))
def hillAt (l : List Sg) : Nat := lastAt (fun s => decide (s.a = hillTop l)) l
def lowAt (l : List Sg) : Int := minI ((l.drop (hillAt l)).map (·.b))
def lowEnd (l : List Sg) : Nat := hillAt l + lastAt (fun s => decide (s.b = lowAt l)) (l.drop (hillAt l))
abbrev stepsF (l : List Sg) : List PyData := (l.map (·.s)).flatten
def oneHill (l : List Sg) : Sg := ⟨hillTop l, lowAt l, stepsF (l.take (lowEnd l + 1))⟩
def hillsN : Nat → List Sg → List Sg
  | 0, _ => []
  | n + 1, l => if l.isEmpty = true then [] else oneHill l :: hillsN n (l.drop (lowEnd l + 1))
def hillsF (l : List Sg) : List Sg := hillsN l.length l
/-- not too many steps -/
def tot (l : List Sg) : Nat := (stepsF l).length
def Fit (l : List Sg) : Prop := l.length ≤ 10000 ∧ tot l ≤ 100000
def sp_segment_end : Spec := pureSp 2 (Bool × List Sg × Nat) (fun g => [sqd g.1 (g.2.1.map Sg.d), .int g.2.2]) (fun g => g.2.2 < g.2.1.length ∧ g.2.1.length ≤ 10000) fun g => .tuple [.int (g.2.2 + lowEnd (g.2.1.drop g.2.2) + 1 : Nat), .int (hillTop (g.2.1.drop g.2.2))]
def N_segment_end : List Str := ["run", "begin", "needed", "hill", "top", "held", "step"]
def G_segment_end : WS := (wSeq (wSet 2 (wLc [6] (.nm 6) (wItSeq (wSl vSl (wVar 0) (wP (wVar 1)) wNoP)) wYes (wOp vIx (wVar 6) (wC (.int 0)))))
 (wSeq (wSet 3 (wCB vMax1 (wCons (wVar 2) wNil)))
 (wSeq (wSet 4 (wOp vAdd (wVar 1) (wCall sp_last_place (wCons (wVar 2) (wCons (wVar 3) wNil)))))
 (wSeq (wSet 5 (wLc [6] (.nm 6) (wItSeq (wSl vSl (wVar 0) (wP (wVar 4)) wNoP)) wYes (wOp vIx (wVar 6) (wC (.int 1)))))
 (wRet (wTup (wCons (wOp vAdd (wOp vAdd (wVar 4) (wCall sp_last_place (wCons (wVar 5) (wCons (wCB vMin1 (wCons (wVar 5) wNil)) wNil)))) (wC (.int 1))) (wCons (wVar 3) wNil))))))))

def sgOf : PyData → Sg
  | .tuple [.int a, .int b, .tuple s] => ⟨a, b, s⟩
  | _ => ⟨0, 0, []⟩
def badRow (xs : List PyData) : Option Nat := xs.findIdx? fun x => !stepB x
def sp_hills : Spec := rsp 1 (Bool × List PyData) (fun g => [sqd g.1 g.2]) (fun g => g.2.length ≤ 10000 ∧ tot (g.2.map sgOf) ≤ 100000) fun g => match badRow g.2 with
  | some i => .error ⟨"BadRow", .int (i : Nat)⟩
  | none => .ok (rowD (hillsF (g.2.map sgOf)))
def N_hills : List Str := ["run", "index", "step", "found", "begin", "end", "hill", "steps"]
def G_hills : WS := (wSeq (wFor (.tp [(.nm 1), (.nm 2)]) (wEnum (wVar 0))
  (wIf (wNot (wTru (wCall sp_is_step (wCons (wVar 2) wNil))))
   (wRaise "BadRow" (wVar 1)) wSkip))
 (wSeq (wSet 3 (wLstM wNil))
 (wSeq (wSet 4 (wC (.int 0)))
 (wSeq (wWhile (wCmpT vLt (wVar 4) (wCB vLen (wCons (wVar 0) wNil)))
  (wSeq (wAsg (.tp [(.nm 5), (.nm 6)]) (wCall sp_segment_end (wCons (wVar 0) (wCons (wVar 4) wNil))))
  (wSeq (wSet 7 (wTup wNil))
  (wSeq (wFor (.nm 2) (wItSeq (wSl vSl (wVar 0) (wP (wVar 4)) (wP (wVar 5))))
   (wAug 7 (wOp vIx (wVar 2) (wC (.int 2))) vIAdd))
  (wSeq (wExpr (wBM "list" vAppend (wVar 3) (wCons (wTup (wCons (wVar 6) (wCons (wOp vIx (wOp vIx (wVar 0) (wOp vSub (wVar 5) (wC (.int 1)))) (wC (.int 1))) (wCons (wVar 7) wNil)))) wNil)))
  (wSet 4 (wVar 5)))))))
 (wRet (wCB vTuple (wCons (wVar 3) wNil)))))))

def sp_law_hills : Spec := pureSp 1 (Bool × List Sg) (fun g => [sqd g.1 (g.2.map Sg.d)]) (fun g => Fit g.2) fun g => .list ((hillsF g.2).map Sg.d)
def N_law_hills : List Str := ["walk", "found", "at", "turn", "rest", "hill", "top", "low", "end", "steps", "step", "k"]
def G_law_hills : WS := (wSeq (wPar [1, 2] (wCons (wLstM wNil) (wCons (wC (.int 0)) wNil)))
 (wSeq (wFor (.nm 3) (wRng1 (wCB vLen (wCons (wVar 0) wNil)))
  (wIf (wCmpT vLt (wVar 2) (wCB vLen (wCons (wVar 0) wNil)))
   (wSeq (wSet 4 (wSl vSl (wVar 0) (wP (wVar 2)) wNoP))
   (wSeq (wSet 5 (wCB vMax1 (wCons (wLc [10] (.nm 10) (wItSeq (wVar 4)) wYes (wOp vIx (wVar 10) (wC (.int 0)))) wNil)))
   (wSeq (wSet 6 (wCB vMax1 (wCons (wLc [11] (.nm 11) (wRng1 (wCB vLen (wCons (wVar 4) wNil))) (wCmpT vEq (wOp vIx (wOp vIx (wVar 4) (wVar 11)) (wC (.int 0))) (wVar 5)) (wVar 11)) wNil)))
   (wSeq (wSet 7 (wCB vMin1 (wCons (wLc [10] (.nm 10) (wItSeq (wSl vSl (wVar 4) (wP (wVar 6)) wNoP)) wYes (wOp vIx (wVar 10) (wC (.int 1)))) wNil)))
   (wSeq (wSet 8 (wCB vMax1 (wCons (wLc [11] (.nm 11) (wRng2 (wVar 6) (wCB vLen (wCons (wVar 4) wNil))) (wCmpT vEq (wOp vIx (wOp vIx (wVar 4) (wVar 11)) (wC (.int 1))) (wVar 7)) (wVar 11)) wNil)))
   (wSeq (wSet 9 (wTup wNil))
   (wSeq (wFor (.nm 10) (wItSeq (wSl vSl (wVar 4) wNoP (wP (wOp vAdd (wVar 8) (wC (.int 1))))))
    (wSet 9 (wOp vAdd (wVar 9) (wOp vIx (wVar 10) (wC (.int 2))))))
   (wSeq (wExpr (wBM "list" vAppend (wVar 1) (wCons (wTup (wCons (wVar 5) (wCons (wVar 7) (wCons (wVar 9) wNil)))) wNil)))
   (wAug 2 (wOp vAdd (wVar 8) (wC (.int 1))) vIAdd))))))))) wSkip))
 (wRet (wFrz (wVar 1)))))

/-! ### plain -/
theorem hillAt_lt {l : List Sg} (h : l ≠ []) : hillAt l < l.length := lastAt_lt (any_max (f := fun s : Sg => s.a) h)
theorem low_ne {l : List Sg} (h : l ≠ []) : l.drop (hillAt l) ≠ [] := by
  have hl := hillAt_lt h
  intro z
  have : (l.drop (hillAt l)).length = 0 := by rw [z]; rfl
  simp at this
  omega
theorem lowEnd_lt {l : List Sg} (h : l ≠ []) : lowEnd l < l.length := by
  have h1 := lastAt_lt (any_min (f := fun s : Sg => s.b) (low_ne h))
  rw [List.length_drop] at h1
  have h2 : lowEnd l = hillAt l + lastAt (fun s => decide (s.b = minI ((l.drop (hillAt l)).map (·.b)))) (l.drop (hillAt l)) := rfl
  omega
theorem tot_app (l m : List Sg) : tot (l ++ m) = tot l + tot m := by
  unfold tot stepsF
  rw [List.map_append, List.flatten_append, List.length_append]
theorem tot_drop (l : List Sg) (n : Nat) : tot (l.drop n) ≤ tot l := by
  have := tot_app (l.take n) (l.drop n)
  rw [List.take_append_drop] at this
  omega
theorem tot_take (l : List Sg) (n : Nat) : tot (l.take n) ≤ tot l := by
  have := tot_app (l.take n) (l.drop n)
  rw [List.take_append_drop] at this
  omega
theorem tot_cons (s : Sg) (l : List Sg) : tot (s :: l) = s.s.length + tot l := by
  unfold tot stepsF
  rw [List.map_cons, List.flatten_cons, List.length_append]
theorem sgOf_d (s : Sg) : sgOf s.d = s := rfl
theorem sgs_d (l : List Sg) : (l.map Sg.d).map sgOf = l := by
  rw [List.map_map]
  exact (List.map_congr_left fun s _ => sgOf_d s).trans (List.map_id l)
theorem stepB_eq {x : PyData} (h : stepB x = true) : x = (sgOf x).d ∧ 0 ≤ (sgOf x).a ∧ 0 ≤ (sgOf x).b := by
  unfold stepB at h
  split at h
  · rename_i x y s
    rw [Bool.and_eq_true] at h
    cases x with
    | int a =>
      cases y with
      | int b => exact ⟨rfl, of_decide_eq_true h.1, of_decide_eq_true h.2⟩
      | _ => exact absurd h.2 (by simp [nonneg])
    | _ => exact absurd h.1 (by simp [nonneg])
  · cases h
theorem rows_eq {xs : List PyData} (h : ∀ x ∈ xs, stepB x = true) : xs = (xs.map sgOf).map Sg.d := by
  rw [List.map_map]
  exact (List.map_id xs).symm.trans (List.map_congr_left fun x hx => (stepB_eq (h x hx)).1)
theorem bad_none {xs : List PyData} (h : badRow xs = none) : ∀ x ∈ xs, stepB x = true := by
  unfold badRow at h
  rw [List.findIdx?_eq_none_iff] at h
  intro x hx
  simpa using h x hx
theorem bad_some {xs : List PyData} {i : Nat} {x : PyData} (h1 : xs[i]? = some x) (h2 : stepB x = false) (h3 : ∀ j y, j < i → xs[j]? = some y → stepB y = true) : badRow xs = some i := by
  unfold badRow
  obtain ⟨hi, e⟩ := List.getElem?_eq_some_iff.mp h1
  refine List.findIdx?_eq_some_iff_getElem.mpr ⟨hi, by rw [e, h2]; rfl, fun j hj => ?_⟩
  rw [h3 j _ hj (List.getElem?_eq_getElem (by omega))]
  decide
theorem bad_no {xs : List PyData} (h : ∀ x ∈ xs, stepB x = true) : badRow xs = none := by
  unfold badRow
  rw [List.findIdx?_eq_none_iff]
  intro x hx
  rw [h x hx]
  rfl
section
variable {S : Sto} {k : KE} {kx : Exc → Sto → Prop}
theorem keeps_is_step : Keeps N_is_step sp_is_step G_is_step := keeps_pure fun W dn d _ hr _ => by
  (unfold G_is_step N_is_step; simp only [startE, List.map_cons, List.map_nil, List.length_cons, List.length_nil, List.cons_append, List.nil_append, Nat.reduceAdd, Nat.reduceSub, List.replicate_succ, List.replicate_zero])
  have no : stepB d = false → ∀ S, dn.rt (.d (.bool false)) S := fun e S => by rw [e] at hr; exact hr S
  cases d with
  | tuple xs =>
    match xs with
    | [x, y, z] =>
      cases z with
      | tuple s =>
        walk_at "dl"
        refine lc_map Val.d [x, y] (fun d => .bool (nonneg d)) True.intro (by simp) (fun x hx => ⟨_, tg_eq, fun k' hk => ?_⟩) ?_
        · walk_at "dl"
          cases x <;> simp only [wholeD] <;> walk_at "dl" <;> exact hk
        · walk_at "dl"
          refine v_allF ?_
          have e : [x, y].all nonneg = stepB (.tuple [x, y, .tuple s]) := by simp [stepB]
          rw [e]
          exact hr _
      | _ => walk_at "dl"; exact no rfl _
    | [] => walk_at "dl"; exact no rfl _
    | [_] => walk_at "dl"; exact no rfl _
    | [_, _] => walk_at "dl"; exact no rfl _
    | _ :: _ :: _ :: _ :: r =>
      walk_at "dl"
      refine i_ite (fun e => ?_) (fun e => ?_)
      · walk_at "dl"
        exact no (by simp [stepB]) _
      · simp at e
        omega
  | _ => walk_at "dl"; exact no rfl _
instance call_is_step {x : PyData} : Stp (callF sp_is_step [.d x] S k kx) (k (.d (.bool (stepB x))) S) := ⟨fun h => call_pure x rfl trivial h⟩
theorem keeps_last_place : Keeps N_last_place sp_last_place G_last_place := keeps_pure fun W dn g hg hr _ => by
  obtain ⟨l, x⟩ := g
  obtain ⟨h1, h2⟩ := hg
  dsimp only at h1 h2 hr
  (unfold G_last_place N_last_place; simp only [startE, List.map_cons, List.map_nil, List.length_cons, List.length_nil, List.cons_append, List.nil_append, Nat.reduceAdd, Nat.reduceSub, List.replicate_succ, List.replicate_zero])
  walk_at "dl"
  have ha : (l.reverse.any fun n => decide (n = x)) = true := List.any_eq_true.mpr ⟨x, by simpa using h1, by simp⟩
  obtain ⟨j, hj⟩ := find_some ha
  obtain ⟨g1, g2⟩ := lastAt_rev hj
  refine v_indexI (ns := l.reverse) (by rw [List.map_reverse]; rfl) hj ?_
  walk_at "dl"
  rw [g2] at hr
  rw [show (((l.map PyData.int).length : Int) - 1 - (j : Nat)) = ((l.length - 1 - j : Nat) : Int) by rw [List.length_map]; omega]
  exact hr _
theorem call_last {l : List Int} {x : Int} (h : x ∈ l ∧ l.length ≤ 1000000) (q : k (.d (.int (lastAt (fun y => decide (y = x)) l : Nat))) S) : callF sp_last_place [.d (.list (l.map PyData.int)), .d (.int x)] S k kx := call_pure (l, x) rfl h q
theorem call_lastM {l : List Sg} {x : Int} {f : Sg → Int} (h : x ∈ l.map f ∧ l.length ≤ 1000000) (q : k (.d (.int (lastAt (fun y => decide (f y = x)) l : Nat))) S) : callF sp_last_place [.d (.list (l.map fun s => .int (f s))), .d (.int x)] S k kx := by
  have e : (l.map fun s => PyData.int (f s)) = (l.map f).map PyData.int := by rw [List.map_map]; rfl
  rw [e]
  refine call_last ⟨h.1, by simpa using h.2⟩ ?_
  rw [lastAt_map]
  exact q
theorem keeps_segment_end : Keeps N_segment_end sp_segment_end G_segment_end := keeps_pure fun W dn g hg hr _ => by
  obtain ⟨b, run, n⟩ := g
  obtain ⟨h1, h2⟩ := hg
  dsimp only at h1 h2 hr
  (unfold G_segment_end N_segment_end; simp only [startE, List.map_cons, List.map_nil, List.length_cons, List.length_nil, List.cons_append, List.nil_append, Nat.reduceAdd, Nat.reduceSub, List.replicate_succ, List.replicate_zero])
  walk_at "dl"
  have hd : run.drop n ≠ [] := by
    intro z
    have := congrArg List.length z
    simp at this
    omega
  have hl : (run.drop n).length ≤ 10000 := by simp; omega
  rw [show cut (run.map Sg.d) (some (n : Int)) none = (run.drop n).map Sg.d by rw [cut_fromG, List.map_drop]]
  refine lc_mapM Sg.d (run.drop n) (fun s => .int s.a) True.intro (by omega) (fun s hs => ⟨_, tg_eq, fun k' hk => by walk_at "dl"; exact hk⟩) ?_
  walk_at "dl"
  refine v_max1 lsI_f (by simpa using hd) ?_
  walk_at "dl"
  refine call_lastM (f := fun s => s.a) ⟨maxI_mem (by simpa using hd), by omega⟩ ?_
  walk_at "dl"
  have e1 : lastAt (fun y : Sg => decide (y.a = maxI (List.map (fun x => x.a) (run.drop n)))) (run.drop n) = hillAt (run.drop n) := rfl
  rw [e1]
  rw [show ((n : Int) + (hillAt (run.drop n) : Nat)) = ((n + hillAt (run.drop n) : Nat) : Int) by omega]
  rw [show cut (run.map Sg.d) (some ((n + hillAt (run.drop n) : Nat) : Int)) none = ((run.drop n).drop (hillAt (run.drop n))).map Sg.d by rw [cut_fromG, List.map_drop, List.map_drop, List.drop_drop]]
  have hne := low_ne hd
  have hl2 : ((run.drop n).drop (hillAt (run.drop n))).length ≤ 10000 := by simp; omega
  generalize hrest : (run.drop n).drop (hillAt (run.drop n)) = rest at *
  refine lc_mapM Sg.d rest (fun s => .int s.b) True.intro (by omega) (fun s hs => ⟨_, tg_eq, fun k' hk => by walk_at "dl"; exact hk⟩) ?_
  walk_at "dl"
  refine v_min1 lsI_f (by simpa using hne) ?_
  walk_at "dl"
  refine call_lastM (f := fun s => s.b) ⟨minI_mem (by simpa using hne), by omega⟩ ?_
  walk_at "dl"
  have e2 : ((n + hillAt (run.drop n) : Nat) : Int) + (lastAt (fun y : Sg => decide (y.b = minI (List.map (fun x => x.b) rest))) rest : Nat) + 1 = (n + lowEnd (run.drop n) + 1 : Nat) := by
    unfold lowEnd lowAt
    rw [hrest]
    omega
  rw [e2]
  exact hr _
theorem call_segEnd {b : Bool} {l : List Sg} {n : Nat} (h : n < l.length ∧ l.length ≤ 10000) (q : k (.d (.tuple [.int (n + lowEnd (l.drop n) + 1 : Nat), .int (hillTop (l.drop n))])) S) : callF sp_segment_end [.d (sqd b (l.map Sg.d)), .d (.int n)] S k kx := call_pure (b, l, n) rfl h q
end
end DL

set_option Elab.async false
set_option linter.all false
set_option maxRecDepth 100000
set_option maxHeartbeats 4000000
/-! Z2: hills of the text and of the law. -/
namespace DL
open PySem PySem.Spec PyProof.Rows L2
local macro_rules | `(tactic| walk_at "dc") => `(tactic| (first | with_reducible exact True.intro | with_reducible exact mulL (by decide) | with_reducible exact mulR (by decide) | with_reducible exact mulL (by omega) | with_reducible exact mulR (by omega) | with_reducible assumption | omega | decide | exact ⟨by decide, by decide⟩ | (refine ⟨?_, ?_⟩ <;> first | with_reducible assumption | decide +kernel) | (simp only [List.length_map, List.length_cons, List.length_nil, List.length_append, List.length_range, List.length_replicate, List.length_reverse]; omega)))
local macro_rules | `(tactic| walk_at "dl") => `(tactic| (repeat' (first | refine Stp.h ?_ | refine Stc.h (by walk_at "dc") ?_ | with_reducible (first | refine i_iteTr (by decide) ?_ | refine i_iteFr (by decide) ?_ | refine i_lcA (by decide) ?_ | refine ⟨o_lst (by with_unfolding_all rfl), ?_⟩) | dsimp only)))
local macro_rules | `(tactic| walk_at "dn") => `(tactic| (repeat' ((fail_if_success (with_reducible refine i_seq ?_)); first | refine Stp.h ?_ | refine Stc.h (by walk_at "dc") ?_ | with_reducible (first | refine i_iteTr (by decide) ?_ | refine i_iteFr (by decide) ?_ | refine i_lcA (by decide) ?_ | refine ⟨o_lst (by with_unfolding_all rfl), ?_⟩) | dsimp only)))
theorem hillsN_nil (n : Nat) : hillsN n [] = [] := by cases n <;> rfl
theorem hillsN_fuel : ∀ (n m : Nat) (l : List Sg), l.length ≤ n → l.length ≤ m → hillsN n l = hillsN m l
  | 0, m, l, h, _ => by
    rw [List.length_eq_zero_iff.mp (Nat.le_zero.mp h), hillsN_nil, hillsN_nil]
  | n + 1, 0, l, _, h => by
    rw [List.length_eq_zero_iff.mp (Nat.le_zero.mp h), hillsN_nil, hillsN_nil]
  | n + 1, m + 1, l, h1, h2 => by
    rw [hillsN, hillsN]
    cases l with
    | nil => rfl
    | cons s l =>
      rw [hillsN_fuel n m ((s :: l).drop (lowEnd (s :: l) + 1)) (by simp at h1 ⊢; omega) (by simp at h2 ⊢; omega)]
theorem hillsF_cons {l : List Sg} (h : l ≠ []) : hillsF l = oneHill l :: hillsF (l.drop (lowEnd l + 1)) := by
  have e : hillsF l = hillsN l.length l := rfl
  rw [e]
  cases l with
  | nil => exact absurd rfl h
  | cons s l =>
    rw [List.length_cons, hillsN]
    have hn : (s :: l).isEmpty = false := rfl
    rw [hn, if_neg (by simp)]
    unfold hillsF
    rw [hillsN_fuel l.length _ ((s :: l).drop (lowEnd (s :: l) + 1)) (by simp) (Nat.le_refl _)]
theorem hillsF_nil : hillsF [] = [] := rfl
theorem hillsF_len : ∀ (n : Nat) (l : List Sg), l.length ≤ n → (hillsF l).length ≤ l.length
  | 0, l, h => by
    rw [List.length_eq_zero_iff.mp (Nat.le_zero.mp h)]
    exact Nat.le_refl _
  | n + 1, l, h => by
    by_cases hl : l = []
    · rw [hl]
      exact Nat.le_refl _
    · rw [hillsF_cons hl, List.length_cons]
      have h1 := List.length_pos_iff.mpr hl
      have := hillsF_len n (l.drop (lowEnd l + 1)) (by simp; omega)
      rw [List.length_drop] at this
      omega
theorem hillsF_le (l : List Sg) : (hillsF l).length ≤ l.length := hillsF_len _ l (Nat.le_refl _)
/-- all steps, in order -/
theorem hillsF_stepsN : ∀ (n : Nat) (l : List Sg), l.length ≤ n → stepsF (hillsF l) = stepsF l
  | 0, l, h => by
    rw [List.length_eq_zero_iff.mp (Nat.le_zero.mp h)]
    rfl
  | n + 1, l, h => by
    by_cases hl : l = []
    · rw [hl]
      rfl
    · rw [hillsF_cons hl]
      have h1 := List.length_pos_iff.mpr hl
      have ih := hillsF_stepsN n (l.drop (lowEnd l + 1)) (by simp; omega)
      show (oneHill l).s ++ stepsF (hillsF (l.drop (lowEnd l + 1))) = _
      rw [ih]
      show stepsF (l.take (lowEnd l + 1)) ++ stepsF (l.drop (lowEnd l + 1)) = _
      unfold stepsF
      rw [← List.flatten_append, ← List.map_append, List.take_append_drop]
theorem hillsF_steps (l : List Sg) : stepsF (hillsF l) = stepsF l := hillsF_stepsN _ l (Nat.le_refl _)
theorem hillsF_tot (l : List Sg) : tot (hillsF l) = tot l := by
  unfold tot
  rw [hillsF_steps]
/-- what stands at the end of a hill's segment -/
theorem lowEnd_at {l : List Sg} (h : l ≠ []) : ∃ s, l[lowEnd l]? = some s ∧ s.b = lowAt l := by
  obtain ⟨⟨s, h1, h2⟩, _⟩ := lastAt_spec (any_min (f := fun s : Sg => s.b) (low_ne h))
  refine ⟨s, ?_, of_decide_eq_true h2⟩
  rw [List.getElem?_drop] at h1
  exact h1
section
variable {S : Sto} {k : KE} {kx : Exc → Sto → Prop}
theorem tot_pre {l : List Sg} {p : List Sg} {s : Sg} {r : List Sg} (h : tot l ≤ 100000) (e : l = p ++ s :: r) : (stepsF p).length + s.s.length ≤ 100000 := by
  rw [e, tot_app, tot_cons] at h
  have : (stepsF p).length = tot p := rfl
  omega
theorem stepsF_snoc (p : List Sg) (s : Sg) : stepsF (p ++ [s]) = stepsF p ++ s.s := by simp [stepsF]
theorem keeps_hills : Keeps N_hills sp_hills G_hills := keeps_rsp fun W dn g hg hr _ hx => by
  obtain ⟨b, xs⟩ := g
  obtain ⟨h1, h2⟩ := hg
  dsimp only at h1 h2 hr hx
  (unfold G_hills N_hills; simp only [startE, List.map_cons, List.map_nil, List.length_cons, List.length_nil, List.cons_append, List.nil_append, Nat.reduceAdd, Nat.reduceSub, List.replicate_succ, List.replicate_zero])
  walk_at "dl"
  refine turns_enum xs (fun i en S => ∃ x1 x2, en = [some (.d (sqd b xs)), x1, x2, none, none, none, none, none] ∧ S = [] ∧ ∀ j y, j < i → xs[j]? = some y → stepB y = true) (fun _ _ _ _ => True.intro) ?_ ?_ ⟨_, _, rfl, rfl, fun j y hj => absurd hj (Nat.not_lt_zero _)⟩
  · rintro i x en S hi ⟨x1, x2, rfl, rfl, hp⟩
    refine ⟨_, tg_eq, fun nx hn => ?_⟩
    walk_at "dl"
    refine i_ite (fun e => ?_) (fun e => ?_)
    · walk_at "dl"
      refine hx _ _ _ ?_
      rw [bad_some hi (by simpa using e) hp]
    · walk_at "dl"
      refine hn _ _ ⟨_, _, rfl, rfl, fun j y hj hy => ?_⟩
      by_cases hji : j = i
      · subst hji
        rw [hi] at hy
        cases hy
        simpa using e
      · exact hp j y (by omega) hy
  · rintro en S ⟨x1, x2, rfl, rfl, hp⟩
    have hall : ∀ x ∈ xs, stepB x = true := fun x hx => by
      obtain ⟨j, hj, rfl⟩ := List.getElem_of_mem hx
      exact hp j _ hj (List.getElem?_eq_getElem hj)
    rw [bad_no hall] at hr
    have he := rows_eq hall
    generalize hl : xs.map sgOf = l at *
    subst he
    rw [List.length_map] at h1
    walk_at "dl"
    refine i_while (fun n en S => ∃ x1 x2 x5 x6 x7 F, en = [some (.d (sqd b (l.map Sg.d))), x1, x2, some (.r 0), some (.d (.int (l.length - n : Nat))), x5, x6, x7] ∧ n ≤ l.length ∧ S = [.lst ((F.map Sg.d).map Val.d)] ∧ F ++ hillsF (l.drop (l.length - n)) = hillsF l ∧ F.length ≤ l.length - n) ?_ l.length ⟨_, _, _, _, _, [], by rw [Nat.sub_self]; rfl, Nat.le_refl _, rfl, by rw [Nat.sub_self]; rfl, Nat.zero_le _⟩
    rintro n en S ⟨x1, x2, x5, x6, x7, F, rfl, hn, rfl, hF, hF2⟩
    generalize hm : l.length - n = m at *
    walk_at "dl"
    refine i_ite (fun e => ?_) (fun e => ?_)
    · have hml : m < l.length := by simpa using e
      have hne : l.drop m ≠ [] := by
        intro z
        have := congrArg List.length z
        simp at this
        omega
      have hlt := lowEnd_lt hne
      rw [List.length_drop] at hlt
      walk_at "dl"
      refine call_segEnd ⟨hml, h1⟩ ?_
      walk_at "dl"
      have em : ((m + lowEnd (l.drop m) + 1 : Nat) : Int) - 1 = (m + lowEnd (l.drop m) : Nat) := by omega
      rw [show cut (l.map Sg.d) (some (m : Int)) (some ((m + lowEnd (l.drop m) + 1 : Nat) : Int)) = ((l.drop m).take (lowEnd (l.drop m) + 1)).map Sg.d by rw [cut_midG, List.map_take, List.map_drop]; congr 1; omega]
      refine turns_map Sg.d ((l.drop m).take (lowEnd (l.drop m) + 1)) (fun p en S => ∃ x2, en = [some (.d (sqd b (l.map Sg.d))), x1, x2, some (.r 0), some (.d (.int m)), some (.d (.int (m + lowEnd (l.drop m) + 1 : Nat))), some (.d (.int (hillTop (l.drop m)))), some (.d (.tuple (stepsF p)))] ∧ S = [.lst ((F.map Sg.d).map Val.d)]) (fun _ _ _ _ => True.intro) ?_ ?_ ⟨_, rfl, rfl⟩
      · rintro p s r en S el ⟨x2, rfl, rfl⟩
        refine ⟨_, tg_eq, fun nx hn2 => ?_⟩
        have hb := tot_pre (Nat.le_trans (tot_take _ _) (Nat.le_trans (tot_drop _ _) h2)) el
        walk_at "dl"
        rw [← stepsF_snoc]
        exact hn2 _ _ ⟨_, rfl, rfl⟩
      · rintro en S ⟨x2, rfl, rfl⟩
        obtain ⟨s, hs1, hs2⟩ := lowEnd_at hne
        rw [List.getElem?_drop] at hs1
        walk_at "dl"
        refine v_ixQm (n := m + lowEnd (l.drop m)) em hs1 ?_
        walk_at "dl"
        refine ⟨l.length - (m + lowEnd (l.drop m) + 1), by omega, _, _, _, _, _, F ++ [oneHill (l.drop m)], by rw [show l.length - (l.length - (m + lowEnd (l.drop m) + 1)) = m + lowEnd (l.drop m) + 1 by omega], by omega, ?_, ?_, by simp; omega⟩
        · simp [oneHill, hs2]
        · rw [← hF, hillsF_cons hne, List.drop_drop, List.append_assoc, show l.length - (l.length - (m + lowEnd (l.drop m) + 1)) = m + (lowEnd (l.drop m) + 1) by omega]
          rfl
    · have hml : l.length ≤ m := by simpa using e
      walk_at "dl"
      rw [List.drop_of_length_le hml, hillsF_nil, List.append_nil] at hF
      rw [hF]
      exact hr _ _ rfl
theorem call_hills {b : Bool} {l : List Sg} (h : Fit l) (h2 : ∀ s ∈ l, 0 ≤ s.a ∧ 0 ≤ s.b) (q : k (.d (rowD (hillsF l))) S) : callF sp_hills [.d (sqd b (l.map Sg.d))] S k kx := by
  have e : badRow (l.map Sg.d) = none := bad_no fun x hx => by
    obtain ⟨s, hs, rfl⟩ := List.mem_map.mp hx
    simp [stepB, nonneg, h2 s hs]
  refine call_rsp (b, l.map Sg.d) rfl ⟨by simpa using h.1, by rw [sgs_d]; exact h.2⟩ (fun d hd => ?_) fun x hx => ?_
  · simp only [e, sgs_d] at hd
    cases hd
    exact q
  · simp only [e] at hx
    cases hx
end
end DL

set_option Elab.async false
set_option linter.all false
set_option maxRecDepth 100000
set_option maxHeartbeats 4000000
/-! Z3: the law's own hills. -/
namespace DL
open PySem PySem.Spec PyProof.Rows L2
local macro_rules | `(tactic| walk_at "dc") => `(tactic| (first | with_reducible exact True.intro | with_reducible exact mulL (by decide) | with_reducible exact mulR (by decide) | with_reducible exact mulL (by omega) | with_reducible exact mulR (by omega) | with_reducible assumption | omega | decide | exact ⟨by decide, by decide⟩ | (refine ⟨?_, ?_⟩ <;> first | with_reducible assumption | decide +kernel) | (simp only [List.length_map, List.length_cons, List.length_nil, List.length_append, List.length_range, List.length_replicate, List.length_reverse]; omega)))
local macro_rules | `(tactic| walk_at "dl") => `(tactic| (repeat' (first | refine Stp.h ?_ | refine Stc.h (by walk_at "dc") ?_ | with_reducible (first | refine i_iteTr (by decide) ?_ | refine i_iteFr (by decide) ?_ | refine i_lcA (by decide) ?_ | refine ⟨o_lst (by with_unfolding_all rfl), ?_⟩) | dsimp only)))
local macro_rules | `(tactic| walk_at "dn") => `(tactic| (repeat' ((fail_if_success (with_reducible refine i_seq ?_)); first | refine Stp.h ?_ | refine Stc.h (by walk_at "dc") ?_ | with_reducible (first | refine i_iteTr (by decide) ?_ | refine i_iteFr (by decide) ?_ | refine i_lcA (by decide) ?_ | refine ⟨o_lst (by with_unfolding_all rfl), ?_⟩) | dsimp only)))
section
variable {S : Sto} {k : KE} {kx : Exc → Sto → Prop}
theorem any_low {l : List Sg} (h : l ≠ []) : ((l.drop (hillAt l)).any fun s => decide (s.b = lowAt l)) = true := any_min (f := fun s : Sg => s.b) (low_ne h)
theorem any_top {l : List Sg} (h : l ≠ []) : (l.any fun s => decide (s.a = hillTop l)) = true := any_max (f := fun s : Sg => s.a) h
def hitI (l : List Sg) (p : Sg → Bool) (i : Nat) : Bool := match l[i]? with
  | some s => p s
  | none => false
theorem keeps_law_hills : Keeps N_law_hills sp_law_hills G_law_hills := keeps_pure fun W dn g hg hr _ => by
  obtain ⟨b, walk⟩ := g
  obtain ⟨hl, ht⟩ := hg
  dsimp only at hl ht hr
  (unfold G_law_hills N_law_hills; simp only [startE, List.map_cons, List.map_nil, List.length_cons, List.length_nil, List.cons_append, List.nil_append, Nat.reduceAdd, Nat.reduceSub, List.replicate_succ, List.replicate_zero])
  walk_at "dl"
  have hN : (((walk.map Sg.d).length : Int) - 0).toNat = walk.length := by rw [List.length_map]; omega
  refine turns_rng (fun i en S => ∃ (x3 x4 x5 x6 x7 x8 x9 x10 : Option Val) (m : Nat) (F : List Sg), en = [some (.d (sqd b (walk.map Sg.d))), some (.r 0), some (.d (.int m)), x3, x4, x5, x6, x7, x8, x9, x10, none] ∧
    S = [.lst ((F.map Sg.d).map Val.d)] ∧ F ++ hillsF (walk.drop m) = hillsF walk ∧ F.length ≤ i ∧ i ≤ walk.length ∧ (walk.length ≤ m ∨ i ≤ m)) (fun _ _ _ _ => True.intro) ?_ ?_ ?_
  · rintro i en S hi ⟨x3, x4, x5, x6, x7, x8, x9, x10, m, F, rfl, rfl, hF, hF2, hi2, hi3⟩
    rw [hN] at hi
    refine ⟨_, tg_eq, fun nx hn => ?_⟩
    walk_at "dl"
    refine i_ite (fun e => ?_) (fun e => ?_)
    · walk_at "dl"
      have hm : m < walk.length := by simpa using e
      rw [show cut (walk.map Sg.d) (some (m : Int)) none = (walk.drop m).map Sg.d by rw [cut_fromG, List.map_drop]]
      generalize hrest : walk.drop m = rest at *
      have hne : rest ≠ [] := by
        intro z
        rw [z] at hrest
        have := congrArg List.length hrest
        simp at this
        omega
      have hrl : rest.length ≤ walk.length := by rw [← hrest]; simp
      have htr : tot rest ≤ 100000 := by
        rw [← hrest]
        exact Nat.le_trans (tot_drop _ _) ht
      refine lc_mapM Sg.d rest (fun s => .int s.a) True.intro (by omega) (fun s hs => ⟨_, tg_eq, fun k' hk => by walk_at "dl"; exact hk⟩) ?_
      walk_at "dl"
      refine v_max1 lsI_f (by simpa using hne) ?_
      walk_at "dl"
      have hN2 : (((rest.map Sg.d).length : Int) - 0).toNat = rest.length := by rw [List.length_map]; omega
      refine lc_rng (fun i => hitI rest (fun s => decide (s.a = hillTop rest)) i) (fun i => .int ((0 : Int) + (i : Nat))) True.intro (by omega) (fun j hj => ?_) ?_
      · rw [hN2] at hj
        have ej : rest[j]? = some rest[j] := List.getElem?_eq_getElem (by omega)
        refine ⟨_, tg_eq, fun k' hk => ?_, fun _ k' hk => ?_⟩
        · walk_at "dl"
          refine v_ixQm (n := j) (by omega) ej ?_
          walk_at "dl"
          unfold hitI at hk
          rw [ej] at hk
          exact hk
        · walk_at "dl"
          exact hk
      rw [hN2]
      walk_at "dl"
      obtain ⟨z0, z1⟩ := lastAt_max (p := fun s => decide (s.a = hillTop rest)) (l := rest) (q := fun i => hitI rest (fun s => decide (s.a = hillTop rest)) i) (f := fun i : Nat => (0 : Int) + (i : Nat)) (c := 0) rfl (fun i x e => by unfold hitI; rw [e]) (fun i => rfl) (any_top hne)
      refine v_max1 lsI_f z0 ?_
      rw [z1, show (0 : Int) + (lastAt (fun s => decide (s.a = hillTop rest)) rest : Nat) = (hillAt rest : Nat) from Int.zero_add _]
      walk_at "dl"
      rw [show cut (rest.map Sg.d) (some ((hillAt rest : Nat) : Int)) none = (rest.drop (hillAt rest)).map Sg.d by rw [cut_fromG, List.map_drop]]
      refine lc_mapM Sg.d (rest.drop (hillAt rest)) (fun s => .int s.b) True.intro (by simp; omega) (fun s hs => ⟨_, tg_eq, fun k' hk => by walk_at "dl"; exact hk⟩) ?_
      walk_at "dl"
      refine v_min1 lsI_f (by simpa using low_ne hne) ?_
      walk_at "dl"
      have hlt := hillAt_lt hne
      refine ⟨⟨by omega, by omega, by simp <;> omega, by simp <;> omega⟩, ?_⟩
      have hN3 : (((rest.map Sg.d).length : Int) - (hillAt rest : Nat)).toNat = (rest.drop (hillAt rest)).length := by rw [List.length_map, List.length_drop]; omega
      refine lc_rng (fun i => hitI (rest.drop (hillAt rest)) (fun s => decide (s.b = lowAt rest)) i) (fun i => .int ((hillAt rest : Int) + (i : Nat))) True.intro (by rw [hN3]; simp; omega) (fun j hj => ?_) ?_
      · rw [hN3] at hj
        have ej : (rest.drop (hillAt rest))[j]? = some (rest.drop (hillAt rest))[j] := List.getElem?_eq_getElem hj
        refine ⟨_, tg_eq, fun k' hk => ?_, fun _ k' hk => ?_⟩
        · walk_at "dl"
          refine v_ixQm (n := hillAt rest + j) (by omega) (by rw [← List.getElem?_drop]; exact ej) ?_
          walk_at "dl"
          unfold hitI at hk
          rw [ej] at hk
          exact hk
        · walk_at "dl"
          exact hk
      rw [hN3]
      walk_at "dl"
      obtain ⟨y0, y1⟩ := lastAt_max (p := fun s => decide (s.b = lowAt rest)) (l := rest.drop (hillAt rest)) (q := fun i => hitI (rest.drop (hillAt rest)) (fun s => decide (s.b = lowAt rest)) i) (f := fun i : Nat => (hillAt rest : Int) + (i : Nat)) (c := hillAt rest) rfl (fun i x e => by unfold hitI; rw [e]) (fun i => rfl) (any_low hne)
      refine v_max1 lsI_f y0 ?_
      rw [y1, show (hillAt rest : Int) + (lastAt (fun s => decide (s.b = lowAt rest)) (rest.drop (hillAt rest)) : Nat) = (lowEnd rest : Nat) from (Int.natCast_add _ _).symm]
      walk_at "dl"
      have hle := lowEnd_lt hne
      rw [show cut (rest.map Sg.d) none (some ((lowEnd rest : Int) + 1)) = (rest.take (lowEnd rest + 1)).map Sg.d by rw [show (lowEnd rest : Int) + 1 = ((lowEnd rest + 1 : Nat) : Int) by omega, cut_toG, List.map_take]]
      refine turns_map Sg.d (rest.take (lowEnd rest + 1)) (fun l en S => ∃ x10, en = [some (.d (sqd b (walk.map Sg.d))), some (.r 0), some (.d (.int m)), some (.d (.int (0 + (i : Int)))), some (.d (sqd b (rest.map Sg.d))), some (.d (.int (hillTop rest))), some (.d (.int (hillAt rest : Nat))), some (.d (.int (lowAt rest))), some (.d (.int (lowEnd rest : Nat))), some (.d (.tuple (stepsF l))), x10, none] ∧ S = [.lst ((F.map Sg.d).map Val.d)]) (fun _ _ _ _ => True.intro) ?_ ?_ ⟨_, rfl, rfl⟩
      · rintro l s r en S el ⟨x10, rfl, rfl⟩
        refine ⟨_, tg_eq, fun nx hn2 => ?_⟩
        have hb := tot_pre (Nat.le_trans (tot_take _ _) htr) el
        walk_at "dl"
        rw [← stepsF_snoc]
        exact hn2 _ _ ⟨_, rfl, rfl⟩
      · rintro en S ⟨x10, rfl, rfl⟩
        walk_at "dl"
        rw [show ((m : Int) + ((lowEnd rest : Int) + 1)) = ((m + (lowEnd rest + 1) : Nat) : Int) by omega]
        refine hn _ _ ⟨_, _, _, _, _, _, _, _, m + (lowEnd rest + 1), F ++ [oneHill rest], rfl, by simp [oneHill], ?_, by simp; omega, by omega, by omega⟩
        rw [← hF, hillsF_cons hne, ← hrest, List.drop_drop, List.append_assoc]
        rfl
    · walk_at "dl"
      have hm : walk.length ≤ m := by simpa using e
      exact hn _ _ ⟨_, _, _, _, _, _, _, _, m, F, rfl, rfl, hF, by omega, by omega, .inl hm⟩
  · rintro en S ⟨x3, x4, x5, x6, x7, x8, x9, x10, m, F, rfl, rfl, hF, hF2, hi2, hi3⟩
    rw [hN] at hi3
    walk_at "dl"
    rw [List.drop_of_length_le (by omega), hillsF_nil, List.append_nil] at hF
    rw [hF]
    exact hr _
  · exact ⟨_, _, _, _, _, _, _, _, 0, [], rfl, rfl, rfl, Nat.le_refl _, Nat.zero_le _, .inr (Nat.le_refl _)⟩
theorem call_lawhills {b : Bool} {l : List Sg} (h : Fit l) (q : k (.d (.list ((hillsF l).map Sg.d))) S) : callF sp_law_hills [.d (sqd b (l.map Sg.d))] S k kx := call_pure (b, l) rfl h q
theorem call_lawhillsT {l : List Sg} (h : Fit l) (q : k (.d (.list ((hillsF l).map Sg.d))) S) : callF sp_law_hills [.d (rowD l)] S k kx := call_lawhills (b := false) h q
theorem call_lawhillsL {l : List Sg} (h : Fit l) (q : k (.d (.list ((hillsF l).map Sg.d))) S) : callF sp_law_hills [.d (.list (l.map Sg.d))] S k kx := call_lawhills (b := true) h q
end
end DL

set_option Elab.async false
set_option linter.all false
set_option maxRecDepth 100000
set_option maxHeartbeats 4000000
/-! Z4: hills fall, valleys rise. -/
namespace DL
open PySem PySem.Spec PyProof.Rows L2
local macro_rules | `(tactic| walk_at "dc") => `(tactic| (first | with_reducible exact True.intro | with_reducible exact mulL (by decide) | with_reducible exact mulR (by decide) | with_reducible exact mulL (by omega) | with_reducible exact mulR (by omega) | with_reducible assumption | omega | decide | exact ⟨by decide, by decide⟩ | (refine ⟨?_, ?_⟩ <;> first | with_reducible assumption | decide +kernel) | (simp only [List.length_map, List.length_cons, List.length_nil, List.length_append, List.length_range, List.length_replicate, List.length_reverse]; omega)))
local macro_rules | `(tactic| walk_at "dl") => `(tactic| (repeat' (first | refine Stp.h ?_ | refine Stc.h (by walk_at "dc") ?_ | with_reducible (first | refine i_iteTr (by decide) ?_ | refine i_iteFr (by decide) ?_ | refine i_lcA (by decide) ?_ | refine ⟨o_lst (by with_unfolding_all rfl), ?_⟩) | dsimp only)))
local macro_rules | `(tactic| walk_at "dn") => `(tactic| (repeat' ((fail_if_success (with_reducible refine i_seq ?_)); first | refine Stp.h ?_ | refine Stc.h (by walk_at "dc") ?_ | with_reducible (first | refine i_iteTr (by decide) ?_ | refine i_iteFr (by decide) ?_ | refine i_lcA (by decide) ?_ | refine ⟨o_lst (by with_unfolding_all rfl), ?_⟩) | dsimp only)))
theorem hills_memN : ∀ (n : Nat) (l : List Sg), l.length ≤ n → ∀ y ∈ hillsF l, (∃ s ∈ l, s.a = y.a) ∧ ∃ s ∈ l, s.b = y.b
  | 0, l, h, y, hy => by
    rw [List.length_eq_zero_iff.mp (Nat.le_zero.mp h)] at hy
    cases hy
  | n + 1, l, h, y, hy => by
    by_cases hl : l = []
    · rw [hl] at hy
      cases hy
    · rw [hillsF_cons hl] at hy
      have hp := List.length_pos_iff.mpr hl
      rcases List.mem_cons.mp hy with rfl | hy
      · obtain ⟨s, h1, h2⟩ := lowEnd_at hl
        obtain ⟨⟨t, g1, g2⟩, _⟩ := lastAt_spec (any_top hl)
        exact ⟨⟨t, List.mem_of_getElem? g1, of_decide_eq_true g2⟩, s, List.mem_of_getElem? h1, h2⟩
      · obtain ⟨⟨s, h1, h2⟩, t, h3, h4⟩ := hills_memN n (l.drop (lowEnd l + 1)) (by simp; omega) y hy
        exact ⟨⟨s, List.mem_of_mem_drop h1, h2⟩, t, List.mem_of_mem_drop h3, h4⟩
theorem hills_mem {l : List Sg} {y : Sg} (h : y ∈ hillsF l) : (∃ s ∈ l, s.a = y.a) ∧ ∃ s ∈ l, s.b = y.b := hills_memN _ l (Nat.le_refl _) y h
theorem top_ge {l : List Sg} {s : Sg} (h : s ∈ l) : s.a ≤ hillTop l := maxI_le (List.mem_map.mpr ⟨s, h, rfl⟩)
theorem low_le {l : List Sg} {s : Sg} (h : s ∈ l.drop (hillAt l)) : lowAt l ≤ s.b := minI_le (List.mem_map.mpr ⟨s, h, rfl⟩)
theorem hills_after {l : List Sg} {s : Sg} (hs : s ∈ l.drop (lowEnd l + 1)) : s.a < hillTop l ∧ lowAt l < s.b := by
  have hl : l ≠ [] := by
    intro z
    rw [z] at hs
    simp at hs
  obtain ⟨j, hj, e⟩ := List.getElem_of_mem hs
  have e1 : (l.drop (lowEnd l + 1))[j]? = some s := by rw [List.getElem?_eq_getElem hj, e]
  rw [List.getElem?_drop] at e1
  have hle : hillAt l ≤ lowEnd l := Nat.le_add_right _ _
  obtain ⟨_, t3⟩ := lastAt_spec (any_top hl)
  obtain ⟨_, u3⟩ := lastAt_spec (any_low hl)
  have e2 : (l.drop (hillAt l))[lowEnd l - hillAt l + 1 + j]? = some s := by
    rw [List.getElem?_drop, ← e1]
    congr 1
    omega
  have m1 := top_ge (List.mem_of_getElem? e1)
  have m2 := low_le (List.mem_of_getElem? e2)
  constructor
  · refine Int.lt_iff_le_and_ne.mpr ⟨m1, fun z => ?_⟩
    have := t3 _ s e1 (decide_eq_true z)
    have h0 : lastAt (fun s => decide (s.a = hillTop l)) l = hillAt l := rfl
    omega
  · refine Int.lt_iff_le_and_ne.mpr ⟨m2, fun z => ?_⟩
    have := u3 _ s e2 (decide_eq_true z.symm)
    have h0 : lowEnd l = hillAt l + lastAt (fun s => decide (s.b = lowAt l)) (l.drop (hillAt l)) := rfl
    omega
abbrev Falls (l : List Sg) : Prop := l.Pairwise fun x y => y.a < x.a ∧ x.b < y.b
theorem hills_fallsN : ∀ (n : Nat) (l : List Sg), l.length ≤ n → Falls (hillsF l)
  | 0, l, h => by
    rw [List.length_eq_zero_iff.mp (Nat.le_zero.mp h)]
    exact .nil
  | n + 1, l, h => by
    by_cases hl : l = []
    · rw [hl]
      exact .nil
    · rw [hillsF_cons hl]
      have hp := List.length_pos_iff.mpr hl
      refine .cons (fun y hy => ?_) (hills_fallsN n _ (by simp; omega))
      obtain ⟨⟨s, h1, h2⟩, t, h3, h4⟩ := hills_mem hy
      have a1 := (hills_after h1).1
      have a2 := (hills_after h3).2
      exact ⟨by rw [← h2]; exact a1, by rw [← h4]; exact a2⟩
theorem hills_falls (l : List Sg) : Falls (hillsF l) := hills_fallsN _ l (Nat.le_refl _)
theorem hills_lastN : ∀ (n : Nat) (l : List Sg), l.length ≤ n → l ≠ [] → ∃ s t, (hillsF l).getLast? = some s ∧ l.getLast? = some t ∧ s.b = t.b
  | 0, l, h, hl => absurd (List.length_eq_zero_iff.mp (Nat.le_zero.mp h)) hl
  | n + 1, l, h, hl => by
    rw [hillsF_cons hl]
    have hp := List.length_pos_iff.mpr hl
    by_cases hr : l.drop (lowEnd l + 1) = []
    · rw [hr, hillsF_nil]
      obtain ⟨s, h1, h2⟩ := lowEnd_at hl
      refine ⟨oneHill l, s, rfl, ?_, h2.symm⟩
      rw [List.getLast?_eq_getElem?, ← h1]
      have := lowEnd_lt hl
      have := congrArg List.length hr
      simp at this
      congr 1
      omega
    · obtain ⟨s, t, h1, h2, h3⟩ := hills_lastN n (l.drop (lowEnd l + 1)) (by simp; omega) hr
      refine ⟨s, t, ?_, ?_, h3⟩
      · rw [List.getLast?_cons]
        rw [h1]
        rfl
      · rw [← h2]
        have hl2 : lowEnd l + 1 < l.length := by
          refine Decidable.byContradiction fun z => hr (List.drop_of_length_le (by omega))
        rw [List.getLast?_eq_getElem?, List.getLast?_eq_getElem?, List.getElem?_drop, List.length_drop]
        congr 1
        omega
theorem hills_last {l : List Sg} (h : l ≠ []) : ∃ s t, (hillsF l).getLast? = some s ∧ l.getLast? = some t ∧ s.b = t.b := hills_lastN _ l (Nat.le_refl _) h
theorem hills_ne {l : List Sg} (h : l ≠ []) : hillsF l ≠ [] := by
  rw [hillsF_cons h]
  exact List.cons_ne_nil _ _
section
variable {S : Sto} {k : KE}
/-- the last of a list or a tuple -/
theorem itm_last {α : Type} {l : List α} {x : α} (h : l.getLast? = some x) : itm l (-1) = some x := by
  rw [List.getLast?_eq_getElem?] at h
  have hl := (List.getElem?_eq_some_iff.mp h).1
  unfold itm
  rw [if_neg (by omega), if_pos (by omega), ← h]
  congr 1
  omega
theorem v_ixTlast {α : Type} {l : List α} {f : α → PyData} {x : α} (h : l.getLast? = some x) (q : k (.d (f x)) S) : vIx (.d (.tuple (l.map f))) (.d (.int (-1))) S k :=
  v_ixT (itm_last (by rw [List.getLast?_map, h]; rfl)) q
theorem v_ixLlast {α : Type} {l : List α} {f : α → PyData} {x : α} (h : l.getLast? = some x) (q : k (.d (f x)) S) : vIx (.d (.list (l.map f))) (.d (.int (-1))) S k :=
  v_ixL (itm_last (by rw [List.getLast?_map, h]; rfl)) q
end
/-! ### shapes -/
def FlatS (l : List Sg) : Prop := ∀ s ∈ l, ∀ d ∈ s.s, shN 0 d ∧ nbD d = true
theorem flat_steps {l : List Sg} (h : FlatS l) : ∀ d ∈ stepsF l, shN 0 d ∧ nbD d = true := fun d hd => by
  obtain ⟨xs, h1, h2⟩ := List.mem_flatten.mp hd
  obtain ⟨s, hs, rfl⟩ := List.mem_map.mp h1
  exact h s hs d h2
theorem flat_of_steps {l : List Sg} (h : ∀ d ∈ stepsF l, shN 0 d ∧ nbD d = true) : FlatS l := fun s hs d hd => h d (List.mem_flatten.mpr ⟨s.s, List.mem_map.mpr ⟨s, hs, rfl⟩, hd⟩)
theorem flat_hills {l : List Sg} (h : FlatS l) : FlatS (hillsF l) := flat_of_steps (by rw [hillsF_steps]; exact flat_steps h)
theorem sh_seg {l : List Sg} (h : FlatS l) : ∀ x ∈ l.map Sg.d, shN 2 x := fun x hx => by
  obtain ⟨s, hs, rfl⟩ := List.mem_map.mp hx
  refine shN_tup fun y hy => ?_
  rcases List.mem_cons.mp hy with rfl | hy
  · exact shN_int
  rcases List.mem_cons.mp hy with rfl | hy
  · exact shN_int
  rcases List.mem_cons.mp hy with rfl | hy
  · exact shN_tup fun d hd => (h s hs d hd).1
  · cases hy
theorem nb_seg {l : List Sg} (h : FlatS l) : nbA (l.map Sg.d) = true := nb_map fun s hs => by
  show nbD (.tuple [.int s.a, .int s.b, .tuple s.s]) = true
  simp only [nbD, nbA, Bool.true_and, Bool.and_true]
  exact nbA_all.mpr fun d hd => (h s hs d hd).2
theorem sh_row {l : List Sg} (h : FlatS l) : Sh (rowD l) := Sh.of (shN_tup (sh_seg h))
theorem nb_row {l : List Sg} (h : FlatS l) : nbD (rowD l) = true := by
  rw [nbD]
  exact nb_seg h
theorem sh_stp {l : List Sg} (h : FlatS l) : Sh (.tuple (stepsF l)) := Sh.of (shN_tup fun d hd => (flat_steps h d hd).1)
theorem nb_stp {l : List Sg} (h : FlatS l) : nbD (.tuple (stepsF l)) = true := by
  rw [nbD]
  exact nbA_all.mpr fun d hd => (flat_steps h d hd).2
end DL

set_option Elab.async false
set_option linter.all false
set_option maxRecDepth 100000
set_option maxHeartbeats 4000000
/-! Z11: the law k11. -/
namespace DL
open PySem PySem.Spec PyProof.Rows L2
local macro_rules | `(tactic| walk_at "dc") => `(tactic| (first | with_reducible exact True.intro | with_reducible exact mulL (by decide) | with_reducible exact mulR (by decide) | with_reducible exact mulL (by omega) | with_reducible exact mulR (by omega) | with_reducible assumption | omega | decide | exact ⟨by decide, by decide⟩ | (refine ⟨?_, ?_⟩ <;> first | with_reducible assumption | decide +kernel) | (simp only [List.length_map, List.length_cons, List.length_nil, List.length_append, List.length_range, List.length_replicate, List.length_reverse]; omega)))
local macro_rules | `(tactic| walk_at "dl") => `(tactic| (repeat' (first | refine Stp.h ?_ | refine Stc.h (by walk_at "dc") ?_ | with_reducible (first | refine i_iteTr (by decide) ?_ | refine i_iteFr (by decide) ?_ | refine i_lcA (by decide) ?_ | refine ⟨o_lst (by with_unfolding_all rfl), ?_⟩) | dsimp only)))
local macro_rules | `(tactic| walk_at "dn") => `(tactic| (repeat' ((fail_if_success (with_reducible refine i_seq ?_)); first | refine Stp.h ?_ | refine Stc.h (by walk_at "dc") ?_ | with_reducible (first | refine i_iteTr (by decide) ?_ | refine i_iteFr (by decide) ?_ | refine i_lcA (by decide) ?_ | refine ⟨o_lst (by with_unfolding_all rfl), ?_⟩) | dsimp only)))
def allInt (d : List PyData) : Prop := ∃ ns : List Int, d = ns.map PyData.int
structure Drawn (n : Nat) (l : List Sg) : Prop where
  len : l.length ≤ n
  nn : ∀ s ∈ l, 0 ≤ s.a ∧ 0 ≤ s.b
  st : ∀ s ∈ l, allInt s.s ∧ s.s.length ≤ 2
def sp_law_run : Spec := genSp 2 Nat (fun n => [.int n]) (fun n => n ≤ 100) fun n d => ∃ l, d = rowD l ∧ Drawn n l
def N_law_run : List Str := ["source", "most", "many", "step", "is_any", "high", "low", "found", "k", "needed", "held", "steps", "j"]
def G_law_run : WS := (wSeq (wPar [2, 3, 4] (wCons (wCall sp_take (wCons (wVar 0) (wCons (wOp vAdd (wVar 1) (wC (.int 1))) wNil))) (wCons (wCall sp_one (wCons (wVar 0) (wCons (wLst (wCons (wC (.int 1)) (wCons (wC (.int 1)) (wCons (wC (.int 1)) (wCons (wOp vPow (wC (.int 10)) (wC (.int 20))) wNil))))) wNil))) (wCons (wOp vEq (wCall sp_take (wCons (wVar 0) (wCons (wC (.int 3)) wNil))) (wC (.int 0))) wNil))))
 (wSeq (wPar [5, 6, 7] (wCons (wOp vAdd (wOp vAdd (wOp vMul (wC (.int 4)) (wVar 2)) (wC (.int 6))) (wCall sp_take (wCons (wVar 0) (wCons (wC (.int 9)) wNil)))) (wCons (wC (.int 0)) (wCons (wLstM wNil) wNil))))
 (wSeq (wFor (.nm 8) (wRng1 (wVar 2))
  (wSeq (wSet 5 (wOp vSub (wVar 5) (wCall sp_take (wCons (wVar 0) (wCons (wC (.int 4)) wNil)))))
  (wSeq (wSet 6 (wOp vAdd (wVar 6) (wCall sp_take (wCons (wVar 0) (wCons (wC (.int 4)) wNil)))))
  (wSeq (wSet 9 (wOp vSub (wVar 5) (wOp vMul (wCall sp_take (wCons (wVar 0) (wCons (wC (.int 2)) wNil))) (wCall sp_take (wCons (wVar 0) (wCons (wC (.int 6)) wNil))))))
  (wSeq (wSet 10 (wOp vAdd (wVar 6) (wOp vMul (wCall sp_take (wCons (wVar 0) (wCons (wC (.int 2)) wNil))) (wCall sp_take (wCons (wVar 0) (wCons (wC (.int 5)) wNil))))))
  (wSeq (wIf (wTru (wVar 4))
   (wPar [9, 10] (wCons (wCall sp_take (wCons (wVar 0) (wCons (wC (.int 8)) wNil))) (wCons (wCall sp_take (wCons (wVar 0) (wCons (wC (.int 8)) wNil))) wNil))) wSkip)
  (wSeq (wSet 11 (wCB vTuple (wCons (wLc [12] (.nm 12) (wRng1 (wCall sp_take (wCons (wVar 0) (wCons (wC (.int 3)) wNil)))) wYes (wOp vAdd (wOp vMul (wC (.int 10)) (wVar 8)) (wVar 12))) wNil)))
  (wExpr (wBM "list" vAppend (wVar 7) (wCons (wTup (wCons (wOp vMul (wVar 3) (wVar 9)) (wCons (wOp vMul (wVar 3) (wVar 10)) (wCons (wVar 11) wNil)))) wNil))))))))))
 (wRet (wCB vTuple (wCons (wVar 7) wNil))))))

def toldD (xs : List PyData) : PyData := match badRow xs with
  | some i => .tuple [.str "row", .int (i : Nat)]
  | none => rowD (hillsF (xs.map sgOf))
def sp_told11 : Spec := pureSp 1 (List PyData) (fun xs => [.tuple xs]) (fun xs => xs.length ≤ 10000 ∧ tot (xs.map sgOf) ≤ 100000) toldD
def N_told11 : List Str := ["run", "e"]
def G_told11 : WS := (wTry (wRet (wCall sp_hills (wCons (wVar 0) wNil)))
  [("BadRow", some 1, fun x W dn en S => dn.rt (.d (.tuple [.str "row", x.arg])) S), ("Refused", some 1, fun x W dn en S => dn.rt (.d (.tuple [.str "another error", x.arg])) S)])

def sp_shape11 : Spec := pureSp 2 (List Sg) (fun l => [rowD l, rowD (hillsF l)]) (fun l => Fit l ∧ FlatS l) fun _ => .bool true
def N_shape11 : List Str := ["run", "told", "steps", "segment", "due", "step", "k"]
def G_shape11 : WS := (wSeq (wSet 2 (wTup wNil))
 (wSeq (wFor (.nm 3) (wItSeq (wVar 1))
  (wSet 2 (wOp vAdd (wVar 2) (wOp vIx (wVar 3) (wC (.int 2))))))
 (wSeq (wSet 4 (wTup wNil))
 (wSeq (wFor (.nm 5) (wItSeq (wVar 0))
  (wSet 4 (wOp vAdd (wVar 4) (wOp vIx (wVar 5) (wC (.int 2))))))
 (wSeq (wIf (wOr (wCmpT vNe (wVar 2) (wVar 4)) (wAnd (wTru (wVar 0)) (wCmpT vNe (wOp vIx (wOp vIx (wVar 1) (wUn vNeg (wC (.int 1)))) (wC (.int 1))) (wOp vIx (wOp vIx (wVar 0) (wUn vNeg (wC (.int 1)))) (wC (.int 1))))))
  (wRet (wC (.bool false))) wSkip)
 (wSeq (wFor (.nm 6) (wRng1 (wOp vSub (wCB vLen (wCons (wVar 1) wNil)) (wC (.int 1))))
  (wIf (wOr (wCmpT vLe (wOp vIx (wOp vIx (wVar 1) (wVar 6)) (wC (.int 0))) (wOp vIx (wOp vIx (wVar 1) (wOp vAdd (wVar 6) (wC (.int 1)))) (wC (.int 0)))) (wCmpT vGe (wOp vIx (wOp vIx (wVar 1) (wVar 6)) (wC (.int 1))) (wOp vIx (wOp vIx (wVar 1) (wOp vAdd (wVar 6) (wC (.int 1)))) (wC (.int 1)))))
   (wRet (wC (.bool false))) wSkip))
 (wRet (wC (.bool true)))))))))

def sp_law11 : Spec := ⟨1, List Int, fun g ws S => ws = [scr g] ∧ S = [] ∧ g.length ≤ 63, fun _ w _ => w = .d (.bool true), fun _ _ _ => False, 0⟩
def N_law11 : List Str := ["script", "turn", "source", "run", "told", "odd", "at"]
def G_law11 : WS := (wSeq (wFor (.nm 1) (wRng1 (wC (.int 4)))
  (wSeq (wSet 2 (wCall sp_pool (wCons (wVar 0) (wCons (wVar 1) wNil))))
  (wSeq (wSet 3 (wCall sp_law_run (wCons (wVar 2) (wCons (wCall sp_one (wCons (wVar 2) (wCons (wLst (wCons (wC (.int 3)) (wCons (wC (.int 6)) (wCons (wC (.int 12)) (wCons (wC (.int 12)) (wCons (wC (.int 40)) wNil)))))) wNil))) wNil))))
  (wSeq (wSet 4 (wCall sp_told11 (wCons (wVar 3) wNil)))
  (wSeq (wIf (wOr (wCmpT vNe (wVar 4) (wCB vTuple (wCons (wCall sp_law_hills (wCons (wVar 3) wNil)) wNil))) (wNot (wTru (wCall sp_shape11 (wCons (wVar 3) (wCons (wVar 4) wNil))))))
   (wRet (wC (.bool false))) wSkip)
  (wSeq (wIf (wCmpT vNe (wCall sp_told11 (wCons (wTup wNil) wNil)) (wTup wNil))
   (wRet (wC (.bool false))) wSkip)
  (wSeq (wSet 5 (wCall sp_one (wCons (wVar 2) (wCons (wLst (wCons (wC .none) (wCons (wC (.str "")) (wCons (wC (.int 7)) (wCons (wTup wNil) (wCons (wTup (wCons (wC (.int 1)) (wCons (wC (.int 2)) wNil))) (wCons (wTup (wCons (wC (.int 1)) (wCons (wC (.int 2)) (wCons (wTup wNil) (wCons (wTup wNil) wNil))))) (wCons (wTup (wCons (wUn vNeg (wC (.int 1))) (wCons (wC (.int 0)) (wCons (wTup wNil) wNil)))) (wCons (wTup (wCons (wC (.int 0)) (wCons (wUn vNeg (wC (.int 1))) (wCons (wTup wNil) wNil)))) (wCons (wTup (wCons (wTup wNil) (wCons (wC (.int 0)) (wCons (wTup wNil) wNil)))) (wCons (wTup (wCons (wC (.int 0)) (wCons (wC .none) (wCons (wTup wNil) wNil)))) (wCons (wTup (wCons (wC (.int 0)) (wCons (wC (.int 0)) (wCons (wC .none) wNil)))) (wCons (wTup (wCons (wC (.int 0)) (wCons (wC (.int 0)) (wCons (wC (.str "ab")) wNil)))) (wCons (wTup (wCons (wC (.str "3")) (wCons (wC (.int 1)) (wCons (wTup wNil) wNil)))) (wCons (wTup (wCons (wC (.int 0)) (wCons (wUn vNeg (wOp vPow (wC (.int 10)) (wC (.int 20)))) (wCons (wTup wNil) wNil)))) (wCons (wTup (wCons (wTup (wCons (wC (.int 1)) (wCons (wC (.int 1)) (wCons (wTup wNil) wNil)))) wNil)) wNil)))))))))))))))) wNil))))
  (wSeq (wSet 6 (wCall sp_take (wCons (wVar 2) (wCons (wOp vAdd (wCB vLen (wCons (wVar 3) wNil)) (wC (.int 1))) wNil))))
  (wIf (wCmpT vNe (wCall sp_told11 (wCons (wOp vAdd (wOp vAdd (wOp vAdd (wSl vSl (wVar 3) wNoP (wP (wVar 6))) (wTup (wCons (wVar 5) wNil))) (wSl vSl (wVar 3) (wP (wVar 6)) wNoP)) (wTup (wCons (wC .none) wNil))) wNil)) (wTup (wCons (wC (.str "row")) (wCons (wVar 6) wNil))))
   (wRet (wC (.bool false))) wSkip)))))))))
 (wRet (wC (.bool true))))

theorem small_mul {x y m : Int} (h1 : 0 ≤ x) (h2 : x < 2) (h3 : 0 ≤ y) (h4 : y < m) : 0 ≤ x * y ∧ x * y < m := by
  have h : x = 0 ∨ x = 1 := by omega
  rcases h with h | h <;> rw [h] <;> omega
section
variable {S : Sto} {k : KE} {kx : Exc → Sto → Prop}
theorem keeps_law_run : Keeps N_law_run sp_law_run G_law_run := keeps_gen fun W dn n a b hn ha hb hb2 hr => by
  (unfold G_law_run N_law_run; simp only [startE, List.map_cons, List.map_nil, List.length_cons, List.length_nil, List.cons_append, List.nil_append, Nat.reduceAdd, Nat.reduceSub, List.replicate_succ, List.replicate_zero])
  walk_at "dl"
  refine call_take (fun many o1 m1 m2 s1 => ?_) (src_mk ha hb hb2)
  walk_at "dl"
  refine call_oneP (fun d => ∃ st : Int, d = .int st ∧ 0 ≤ st) ?_ fun step o2 hstep s2 => ?_
  · intro d h
    simp only [List.mem_cons, List.not_mem_nil, or_false] at h
    rcases h with h | h | h | h <;> exact ⟨_, h, by decide⟩
  obtain ⟨st, rfl, st0⟩ := hstep
  walk_at "dl"
  refine call_take fun x o3 _ _ s3 => ?_
  walk_at "dl"
  refine call_take fun y o4 y1 y2 s4 => ?_
  walk_at "dl"
  obtain ⟨mn, rfl⟩ := Int.eq_ofNat_of_zero_le m1
  have hmn : ((mn : Int) - 0).toNat = mn := by omega
  refine turns_rng (fun i en S => ∃ hi lo x8 x9 x10 x11 o l, en = [some (.r 0), some (.d (.int n)), some (.d (.int mn)), some (.d (.int st)), some (.d (.bool (decide (x = 0)))), some (.d (.int hi)), some (.d (.int lo)), some (.r 1), x8, x9, x10, x11, none] ∧
    S = [o, .lst ((l.map Sg.d).map Val.d)] ∧ Src o ∧ Drawn i l ∧ l.length = i ∧ i ≤ mn ∧ 4 * (mn : Int) + 6 - 3 * i ≤ hi ∧ hi ≤ 4 * mn + 14 ∧ 0 ≤ lo ∧ lo ≤ 3 * i) (fun _ _ _ _ => True.intro) ?_ ?_ ?_
  · rintro i en S hi ⟨hg, lo, x8, x9, x10, x11, o, l, rfl, rfl, ho, l1, l3, l4, b1, b2, b3, b4⟩
    rw [hmn] at hi
    refine ⟨_, tg_eq, fun nx hnx => ?_⟩
    walk_at "dl"
    refine call_take fun t1 o5 t1a t1b s5 => ?_
    walk_at "dl"
    refine call_take fun t2 o6 t2a t2b s6 => ?_
    walk_at "dl"
    refine call_take fun t3 o7 t3a t3b s7 => ?_
    walk_at "dl"
    refine call_take fun t4 o8 t4a t4b s8 => ?_
    have hm1 := small_mul t3a t3b t4a t4b
    walk_at "dl"
    refine call_take fun t5 o9 t5a t5b s9 => ?_
    walk_at "dl"
    refine call_take fun t6 o10 t6a t6b s10 => ?_
    have hm2 := small_mul t5a t5b t6a t6b
    walk_at "dn"
    refine i_seqJ fun R hR => ?_
    have fin : ∀ (nd hd : Int) (o : Ob), Src o → 0 ≤ nd → nd < 1000 → 0 ≤ hd → hd < 1000 → R [some (.r 0), some (.d (.int n)), some (.d (.int mn)), some (.d (.int st)), some (.d (.bool (decide (x = 0)))), some (.d (.int (hg - t1))), some (.d (.int (lo + t2))), some (.r 1), some (.d (.int (0 + (i : Int)))), some (.d (.int nd)), some (.d (.int hd)), x11, none] [o, .lst ((l.map Sg.d).map Val.d)] := by
      intro nd hd o ho n1 n2 d1 d2
      rw [hR]
      walk_at "dl"
      refine call_take fun c o' c1 c2 sc => ?_
      walk_at "dl"
      refine lc_rng (fun _ => true) (fun j => .int (10 * (0 + (i : Int)) + (0 + (j : Nat)))) True.intro (by omega) (fun j hj => ⟨_, tg_eq, fun k' hk => by walk_at "dl"; exact hk, fun _ k' hk => by walk_at "dl"; exact hk⟩) ?_
      walk_at "dl"
      refine hnx _ _ ⟨_, _, _, _, _, _, _, l ++ [⟨st * nd, st * hd, ((List.range (c - 0).toNat).filter fun _ => true).map fun j : Nat => .int (10 * (0 + (i : Int)) + (0 + (j : Nat)))⟩], rfl, by simp, sc, ⟨by simp [l3], ?_, ?_⟩, by simp [l3], by omega, by omega, by omega, by omega, by omega⟩
      · intro s hs
        rcases List.mem_append.mp hs with hs | hs
        · exact l1.nn s hs
        · rw [List.mem_singleton.mp hs]
          exact ⟨Int.mul_nonneg st0 n1, Int.mul_nonneg st0 d1⟩
      · intro s hs
        rcases List.mem_append.mp hs with hs | hs
        · exact l1.st s hs
        · rw [List.mem_singleton.mp hs]
          dsimp only
          rw [filt_true]
          refine ⟨⟨(List.range (c - 0).toNat).map fun j : Nat => (10 * (0 + (i : Int)) + (0 + (j : Nat))), by rw [List.map_map]; rfl⟩, ?_⟩
          rw [List.length_map, List.length_range]
          omega
    walk_at "dl"
    refine i_ite (fun e => ?_) (fun e => ?_)
    · walk_at "dl"
      refine call_take fun t7 o11 t7a t7b s11 => ?_
      walk_at "dl"
      refine call_take fun t8 o12 t8a t8b s12 => ?_
      walk_at "dl"
      exact fin t7 t8 o12 s12 (by omega) (by omega) (by omega) (by omega)
    · walk_at "dl"
      exact fin _ _ o10 s10 (by omega) (by omega) (by omega) (by omega)
  · rintro en S ⟨hg, lo, x8, x9, x10, x11, o, l, rfl, rfl, ho, l1, l3, l4, b1, b2, b3, b4⟩
    walk_at "dl"
    exact hr _ _ _ ⟨l, rfl, by rw [hmn] at l4; omega, l1.nn, l1.st⟩ ho
  · exact ⟨_, _, _, _, _, _, _, [], rfl, rfl, s4, ⟨Nat.zero_le _, fun s hs => (by cases hs), fun s hs => (by cases hs)⟩, rfl, Nat.zero_le _, by omega, by omega, by omega, by omega⟩
theorem call_run {i : Nat} {o : Ob} {n : Nat} {f : Ob → Sto} [p : StG S i o] [s : StP S i f] (q : ∀ (l : List Sg) (o' : Ob), Drawn n l → Src o' → k (.d (rowD l)) (f o')) (h : n ≤ 100 := by omega) (ho : Src o := by assumption) : callF sp_law_run [.r i, .d (.int n)] S k kx :=
  call_genF n h (fun d o' hd ho' => by
    obtain ⟨l, rfl, hl⟩ := hd
    exact q l o' hl ho') ho
theorem keeps_told11 : Keeps N_told11 sp_told11 G_told11 := keeps_pure fun W dn xs hg hr _ => by
  (unfold G_told11 N_told11; simp only [startE, List.map_cons, List.map_nil, List.length_cons, List.length_nil, List.cons_append, List.nil_append, Nat.reduceAdd, Nat.reduceSub, List.replicate_succ, List.replicate_zero])
  walk_at "dl"
  refine call_rsp (false, xs) rfl hg (fun d hd => ?_) fun x hx => ?_
  · walk_at "dl"
    have e : d = toldD xs := by
      unfold toldD
      cases hb : badRow xs with
      | some i =>
        simp only [hb] at hd
        cases hd
      | none =>
        simp only [hb] at hd
        cases hd
        rfl
    rw [e]
    exact hr _
  · cases hb : badRow xs with
    | some i =>
      have e : toldD xs = .tuple [.str "row", .int (i : Nat)] := by
        unfold toldD
        rw [hb]
      rw [e] at hr
      simp only [hb] at hx
      cases hx
      walk_at "dl"
      exact hr _
    | none =>
      simp only [hb] at hx
      cases hx
theorem call_told11 {xs : List PyData} (h : xs.length ≤ 10000 ∧ tot (xs.map sgOf) ≤ 100000) (q : k (.d (toldD xs)) S) : callF sp_told11 [.d (.tuple xs)] S k kx := call_pure xs rfl h q
theorem keeps_shape11 : Keeps N_shape11 sp_shape11 G_shape11 := keeps_pure fun W dn l hg hr _ => by
  obtain ⟨⟨h1, h2⟩, h3⟩ := hg
  have g2 : tot (hillsF l) ≤ 100000 := by rw [hillsF_tot]; exact h2
  have g3 := flat_hills h3
  (unfold G_shape11 N_shape11; simp only [startE, List.map_cons, List.map_nil, List.length_cons, List.length_nil, List.cons_append, List.nil_append, Nat.reduceAdd, Nat.reduceSub, List.replicate_succ, List.replicate_zero])
  walk_at "dl"
  refine turns_map Sg.d (hillsF l) (fun p en S => ∃ x3, en = [some (.d (rowD l)), some (.d (rowD (hillsF l))), some (.d (.tuple (stepsF p))), x3, none, none, none] ∧ S = []) (fun _ _ _ _ => True.intro) ?_ ?_ ⟨_, rfl, rfl⟩
  · rintro p s r en S el ⟨x3, rfl, rfl⟩
    refine ⟨_, tg_eq, fun nx hn2 => ?_⟩
    have hb := tot_pre g2 el
    walk_at "dl"
    rw [← stepsF_snoc]
    exact hn2 _ _ ⟨_, rfl, rfl⟩
  rintro en S ⟨x3, rfl, rfl⟩
  walk_at "dl"
  refine turns_map Sg.d l (fun p en S => ∃ x5, en = [some (.d (rowD l)), some (.d (rowD (hillsF l))), some (.d (.tuple (stepsF (hillsF l)))), x3, some (.d (.tuple (stepsF p))), x5, none] ∧ S = []) (fun _ _ _ _ => True.intro) ?_ ?_ ⟨_, rfl, rfl⟩
  · rintro p s r en S el ⟨x5, rfl, rfl⟩
    refine ⟨_, tg_eq, fun nx hn2 => ?_⟩
    have hb := tot_pre h2 el
    walk_at "dl"
    rw [← stepsF_snoc]
    exact hn2 _ _ ⟨_, rfl, rfl⟩
  rintro en S ⟨x5, rfl, rfl⟩
  rw [hillsF_steps]
  dsimp only
  refine i_seqJ fun R hR => ?_
  have fin : R [some (.d (rowD l)), some (.d (rowD (hillsF l))), some (.d (.tuple (stepsF l))), x3, some (.d (.tuple (stepsF l))), x5, none] [] := by
    rw [hR]
    have hlen := hillsF_le l
    walk_at "dl"
    refine turns_rng (fun i en S => ∃ x6, en = [some (.d (rowD l)), some (.d (rowD (hillsF l))), some (.d (.tuple (stepsF l))), x3, some (.d (.tuple (stepsF l))), x5, x6] ∧ S = []) (fun _ _ _ _ => True.intro) ?_ ?_ ⟨_, rfl, rfl⟩
    · rintro i en S hi ⟨x6, rfl, rfl⟩
      rw [List.length_map] at hi
      refine ⟨_, tg_eq, fun nx hn2 => ?_⟩
      have hi1 : i < (hillsF l).length := by omega
      have hi2 : i + 1 < (hillsF l).length := by omega
      have e1 : (hillsF l)[i]? = some (hillsF l)[i] := List.getElem?_eq_getElem hi1
      have e2 : (hillsF l)[i + 1]? = some (hillsF l)[i + 1] := List.getElem?_eq_getElem hi2
      obtain ⟨f1, f2⟩ := List.pairwise_iff_getElem.mp (hills_falls l) i (i + 1) hi1 hi2 (Nat.lt_succ_self i)
      walk_at "dl"
      refine v_ixTm (n := i) (by omega) e1 ?_
      walk_at "dl"
      refine v_ixTm (n := i + 1) (by omega) e2 ?_
      walk_at "dl"
      refine i_iteFr (decide_eq_false (by omega)) ?_
      walk_at "dl"
      refine v_ixTm (n := i) (by omega) e1 ?_
      walk_at "dl"
      refine v_ixTm (n := i + 1) (by omega) e2 ?_
      walk_at "dl"
      refine i_iteFr (decide_eq_false (by omega)) ?_
      walk_at "dl"
      exact hn2 _ _ ⟨_, rfl, rfl⟩
    · rintro en S ⟨x6, rfl, rfl⟩
      walk_at "dl"
      exact hr _
  walk_at "dl"
  refine v_neS (sh_stp h3) (ok_nb _ (nb_stp h3)) ?_
  walk_at "dl"
  cases l with
  | nil => exact fin
  | cons a l =>
    obtain ⟨s, t, t1, t2, t3⟩ := hills_last (l := a :: l) (List.cons_ne_nil _ _)
    refine i_iteTr rfl ?_
    walk_at "dl"
    refine v_ixTlast t1 ?_
    walk_at "dl"
    refine v_ixTlast t2 ?_
    walk_at "dl"
    refine i_iteFr (by rw [t3]; simp) ?_
    walk_at "dl"
    exact fin
theorem call_shape11 {l : List Sg} (h : Fit l ∧ FlatS l) (q : k (.d (.bool true)) S) : callF sp_shape11 [.d (rowD l), .d (rowD (hillsF l))] S k kx := call_pure l rfl h q
theorem Drawn.flat {n : Nat} {l : List Sg} (h : Drawn n l) : FlatS l := fun s hs d hd => by
  obtain ⟨⟨ns, e⟩, _⟩ := h.st s hs
  rw [e] at hd
  obtain ⟨a, _, rfl⟩ := List.mem_map.mp hd
  exact ⟨shN_int, rfl⟩
theorem Drawn.totN {n : Nat} {l : List Sg} (h : Drawn n l) : tot l ≤ 2 * l.length := by
  have : ∀ l : List Sg, (∀ s ∈ l, s.s.length ≤ 2) → tot l ≤ 2 * l.length := by
    intro l
    induction l with
    | nil => intro _; exact Nat.le_refl _
    | cons s l ih =>
      intro hs
      rw [tot_cons, List.length_cons]
      have := ih fun t ht => hs t (List.mem_cons_of_mem _ ht)
      have := hs s List.mem_cons_self
      omega
  exact this l fun s hs => (h.st s hs).2
theorem Drawn.fit {n : Nat} {l : List Sg} (h : Drawn n l) (hn : n ≤ 100) : Fit l := by
  have h1 := h.totN
  have h2 := h.len
  exact ⟨by omega, by omega⟩
theorem step_of {s : Sg} (h : 0 ≤ s.a ∧ 0 ≤ s.b) : stepB s.d = true := by simp [stepB, nonneg, h]
theorem Drawn.ok {n : Nat} {l : List Sg} (h : Drawn n l) : ∀ x ∈ l.map Sg.d, stepB x = true := fun x hx => by
  obtain ⟨s, hs, rfl⟩ := List.mem_map.mp hx
  exact step_of (h.nn s hs)
theorem toldD_good {l : List Sg} (h : ∀ x ∈ l.map Sg.d, stepB x = true) : toldD (l.map Sg.d) = rowD (hillsF l) := by
  unfold toldD
  rw [bad_no h, sgs_d]
theorem toldD_odd {l : List Sg} {m : Nat} {odd : PyData} {r : List PyData} (h : ∀ x ∈ l.map Sg.d, stepB x = true) (ho : stepB odd = false) : toldD (l.map Sg.d ++ [odd] ++ r) = .tuple [.str "row", .int (l.length : Nat)] := by
  unfold toldD
  rw [bad_some (i := l.length) (x := odd) (by rw [List.append_assoc, List.getElem?_append_right (by simp)]; simp) ho fun j y hj hy => h y ?_]
  rw [List.append_assoc, List.getElem?_append_left (by simpa using hj)] at hy
  exact List.mem_of_getElem? hy
end
theorem keeps_law11 : Keeps N_law11 sp_law11 G_law11 := by
  rintro ns ws S hl ⟨rfl, rfl, hns⟩
  have key : ∀ (W : XQ) (dn : DN), (∀ T, dn.rt (.d (.bool true)) T) → G_law11 W dn (startE N_law11 [scr ns]) [] := by
    intro W dn hr
    (unfold G_law11 N_law11; simp only [startE, List.map_cons, List.map_nil, List.length_cons, List.length_nil, List.cons_append, List.nil_append, Nat.reduceAdd, Nat.reduceSub, List.replicate_succ, List.replicate_zero])
    walk_at "dl"
    refine turns_rng (fun i en S => ∃ (x1 x2 x3 x4 x5 x6 : Option Val), en = [some (scr ns), x1, x2, x3, x4, x5, x6]) (fun _ _ _ _ => True.intro) ?_ ?_ ⟨_, _, _, _, _, _, rfl⟩
    · rintro i en S hi ⟨x1, x2, x3, x4, x5, x6, rfl⟩
      have hi7 : i < 4 := hi
      refine ⟨_, tg_eq, fun nx hn => ?_⟩
      walk_at "dl"
      rw [show ((0 : Int) + (i : Nat)) = (i : Nat) by omega]
      refine call_pool (by omega) fun o ho => ?_
      walk_at "dl"
      refine call_oneP (fun d => ∃ n : Nat, d = .int n ∧ n ≤ 40) ?_ fun d o1 hd s1 => ?_
      · intro d h
        simp only [List.mem_cons, List.not_mem_nil, or_false] at h
        rcases h with h | h | h | h | h
        · exact ⟨3, h, by decide⟩
        · exact ⟨6, h, by decide⟩
        · exact ⟨12, h, by decide⟩
        · exact ⟨12, h, by decide⟩
        · exact ⟨40, h, by decide⟩
      obtain ⟨n, rfl, hn40⟩ := hd
      walk_at "dl"
      refine call_run fun l o2 hL s2 => ?_
      have hf := hL.flat
      have hfit := hL.fit (by omega)
      have hlen := hL.len
      have hok := hL.ok
      walk_at "dl"
      refine call_told11 ⟨by rw [List.length_map]; exact hfit.1, by rw [sgs_d]; exact hfit.2⟩ ?_
      rw [toldD_good hok]
      walk_at "dl"
      refine call_lawhillsT hfit ?_
      walk_at "dl"
      refine v_neS (sh_row (flat_hills hf)) (ok_nb _ (nb_row (flat_hills hf))) ?_
      walk_at "dl"
      refine call_shape11 ⟨hfit, hf⟩ ?_
      walk_at "dl"
      refine call_told11 (xs := []) ⟨by simp, by decide⟩ ?_
      walk_at "dl"
      refine v_neS (d := .tuple []) rfl rfl ?_
      walk_at "dl"
      refine call_oneP (fun d => stepB d = false ∧ (sgOf d).s = []) ?_ fun odd o3 hd s3 => ?_
      · intro d h
        simp only [List.mem_cons, List.not_mem_nil, or_false] at h
        rcases h with h | h | h | h | h | h | h | h | h | h | h | h | h | h | h <;> (rw [h]; constructor <;> first | rfl | decide)
      obtain ⟨od1, od2⟩ := hd
      walk_at "dl"
      refine call_take (fun at_ o4 a1 a2 s4 => ?_) (h := by simp; omega)
      rw [List.length_map] at a2
      obtain ⟨m, rfl⟩ := Int.eq_ofNat_of_zero_le a1
      have hm : m ≤ l.length := by omega
      walk_at "dl"
      rw [cut_toG, ← List.map_take]
      refine v_addT (by simp; omega) ?_
      walk_at "dl"
      rw [cut_fromG, ← List.map_drop]
      refine v_addT (by simp; omega) ?_
      walk_at "dl"
      refine v_addT (by simp; omega) ?_
      walk_at "dl"
      have t1 : (l.take m).length = m := by simp; omega
      have hok2 : ∀ x ∈ (l.take m).map Sg.d, stepB x = true := fun x hx => hok x (by
        obtain ⟨s, hs, rfl⟩ := List.mem_map.mp hx
        exact List.mem_map.mpr ⟨s, List.mem_of_mem_take hs, rfl⟩)
      have e := toldD_odd (m := m) (odd := odd) (r := (l.drop m).map Sg.d ++ [.none]) hok2 od1
      rw [← List.append_assoc, t1] at e
      refine call_told11 ⟨by simp; omega, ?_⟩ ?_
      · have z : ∀ xs : List PyData, tot (xs.map sgOf) = ((xs.map fun d => (sgOf d).s).flatten).length := fun xs => by
          unfold tot stepsF
          rw [List.map_map]
          rfl
        have z2 : tot (((l.take m).map Sg.d ++ [odd] ++ (l.drop m).map Sg.d ++ [PyData.none]).map sgOf) = tot l := by
          rw [List.map_append, List.map_append, List.map_append, sgs_d, sgs_d, tot_app, tot_app, tot_app]
          have z3 : tot ([odd].map sgOf) = 0 := by rw [z]; simp [od2]
          have z4 : tot ([PyData.none].map sgOf) = 0 := rfl
          rw [z3, z4, Nat.add_zero, Nat.add_zero, ← tot_app, List.take_append_drop]
        rw [z2]
        exact hfit.2
      rw [e]
      walk_at "dl"
      refine v_neS (d := .tuple [.str "row", .int (m : Nat)]) sh_tag rfl ?_
      walk_at "dl"
      exact hn _ _ ⟨_, _, _, _, _, _, rfl⟩
    · rintro en S ⟨x1, x2, x3, x4, x5, x6, rfl⟩
      walk_at "dl"
      exact hr _
  refine key _ _ fun T => ⟨⟨?_, True.intro⟩, rfl⟩
  rfl
end DL

set_option Elab.async false
set_option linter.all false
set_option maxRecDepth 100000
set_option maxHeartbeats 4000000
/-! DL29: texts compared; in lists of texts and ints; a promise of some answer. -/
namespace DL
open PySem PySem.Spec PyProof.Rows L2 RZ
abbrev sOk (x : Str) : Prop := PyData.canLay0 (.str x) = true
theorem eqv_str (x y : Str) : PyData.eqv (.str x) (.str y) = decide (x = y) := by
  have h : PyData.eqv (.str x) (.str y) = (x == y) := by simp [PyData.eqv]
  rw [h]
  by_cases e : x = y
  · subst e
    simp
  · rw [decide_eq_false e]
    simpa using e
theorem sh_str {x : Str} (h : sOk x) : Sh (.str x) := Sh.of (n := 0) (shN_str h)
section
variable {S : Sto} {k : KE} {x y : Str} {xs ys : List PyData} {a b : Int}
instance : Stc (vEq (.d (.str x)) (.d (.str y)) S k) (sOk x ∧ sOk y) (k (.d (.bool (decide (x = y)))) S) := ⟨fun c h => v_eq rfl rfl (sh_str c.1) (sh_str c.2) (by rw [eqv_str]; exact h)⟩
instance : Stc (vNe (.d (.str x)) (.d (.str y)) S k) (sOk x ∧ sOk y) (k (.d (.bool (!decide (x = y)))) S) := ⟨fun c h => v_ne rfl rfl (sh_str c.1) (sh_str c.2) (by rw [eqv_str]; exact h)⟩
/-- a written list of texts -/
class StrL (xs : List PyData) (l : outParam (List Str)) : Prop where
  eq : xs = l.map PyData.str
instance : StrL [] [] := ⟨rfl⟩
instance {l : List Str} [h : StrL xs l] : StrL (.str x :: xs) (x :: l) := ⟨by rw [h.eq]; rfl⟩
class IntL (xs : List PyData) (l : outParam (List Int)) : Prop where
  eq : xs = l.map PyData.int
instance : IntL [] [] := ⟨rfl⟩
instance {l : List Int} [h : IntL xs l] : IntL (.int a :: xs) (a :: l) := ⟨by rw [h.eq]; rfl⟩
theorem any_eqvS (x : Str) : ∀ l : List Str, ((l.map PyData.str).any fun e => PyData.eqv e (.str x)) = decide (x ∈ l)
  | [] => rfl
  | y :: l => by
    rw [List.map_cons, List.any_cons, any_eqvS x l, eqv_str]
    by_cases h : y = x
    · subst h
      simp
    · rw [decide_eq_false h, Bool.false_or]
      have : ¬ x = y := fun z => h z.symm
      simp [this]
theorem flat_strs : ∀ l : List Str, (l.map PyData.str).all flatD = true
  | [] => rfl
  | _ :: l => by
    rw [List.map_cons, List.all_cons, flat_strs l]
    rfl
instance {l : List Str} [h : StrL xs l] : Stp (vIn false (.d (.str x)) (.d (.tuple xs)) S k) (k (.d (.bool (decide (x ∈ l)))) S) := ⟨fun q => by
  have e := h.eq
  subst e
  have e1 : seqW S (.d (.tuple (l.map PyData.str))) = some ((l.map PyData.str).map Val.d) := rfl
  unfold vIn
  simp only [e1, dats_map]
  refine ⟨rfl, flat_strs l, ?_⟩
  rw [any_eqvS, Bool.bne_false]
  exact q⟩
instance {l : List Int} [h : IntL xs l] : Stp (vIn false (.d (.int a)) (.d (.tuple xs)) S k) (k (.d (.bool (decide (a ∈ l)))) S) := ⟨fun q => by
  have e := h.eq
  subst e
  exact v_inI l rfl (by rw [Bool.bne_false]; exact q)⟩
instance {l : List Int} [h : IntL xs l] : Stp (vIn true (.d (.int a)) (.d (.tuple xs)) S k) (k (.d (.bool (!decide (a ∈ l)))) S) := ⟨fun q => by
  have e := h.eq
  subst e
  exact v_inI l rfl (by rw [Bool.bne_true]; exact q)⟩
end
/-- some answer out of many -/
def relSp (n : Nat) (γ : Type) (args : γ → List PyData) (ok : γ → Prop) (R : γ → PyData → Prop) : Spec := ⟨n, γ, fun g ws S => ws = (args g).map Val.d ∧ S = [] ∧ ok g, fun g w S => (∃ d, w = .d d ∧ R g d) ∧ S = [], fun _ _ _ => False, 0⟩
section
variable {N : List Str} {n : Nat} {γ : Type} {args : γ → List PyData} {ok : γ → Prop} {R : γ → PyData → Prop} {G : WS} {S : Sto} {k : KE} {kx : Exc → Sto → Prop}
theorem keeps_rel (h : ∀ (W : XQ) (dn : DN) (g : γ), ok g → (∀ d S, R g d → dn.rt (.d d) S) → G W dn (startE N ((args g).map Val.d)) []) : Keeps N (relSp n γ args ok R) G := by
  rintro g ws S hl ⟨rfl, rfl, hok⟩
  exact h _ _ g hok fun d S e => ⟨⟨rfl, True.intro⟩, ⟨d, rfl, e⟩, rfl⟩
theorem call_rel (g : γ) (hn : (args g).length = n) (h : ok g) (q : ∀ d, R g d → k (.d d) S) : callF (relSp n γ args ok R) ((args g).map Val.d) S k kx := by
  refine ⟨by rw [List.length_map]; exact hn, ?_⟩
  rw [refsOf_d]
  refine ⟨g, ⟨ren_d _ _, rfl, h⟩, ?_, fun x T' z => z.elim⟩
  rintro w T' ⟨⟨d, rfl, e⟩, rfl⟩
  refine ⟨Nat.le_refl _, rfl, ?_⟩
  rw [back_nil]
  exact q d e
end
end DL

set_option Elab.async false
set_option linter.all false
set_option maxRecDepth 100000
set_option maxHeartbeats 4000000
/-! DL30: a, b = x, y where a tuple is made and taken apart. -/
namespace DL
open PySem PySem.Spec PyProof.Rows L2 RZ
theorem names_run {K : PySem.W.Frag} {m : Ids} {H : Hp} : ∀ (is : List Nat) (us : List V) (ws : List Val) (st : L2.St) (en : Env) (Q : L2.St → Hp → Prop), RVs K m H us ws → REnv K m H st en → ws.length = is.length →
    (∀ st', REnv K m H st' ((is.zip ws).foldl (fun e p => e.set p.1 (some p.2)) en) → Q st' H) → us.length = Tg.len (is.map Tg.nm) ∧ Tg.gs K (is.map Tg.nm) us st H Q
  | [], us, ws, st, en, Q, r, g, hl, q => by
    have e : ws = [] := List.length_eq_zero_iff.mp hl
    subst e
    cases r
    rw [List.map_nil]
    unfold Tg.gs Tg.len
    exact ⟨rfl, rfl, q st g⟩
  | i :: is, us, ws, st, en, Q, r, g, hl, q => by
    match us, ws, r with
    | v :: us, w :: ws, .cons r rs =>
      rw [List.map_cons]
      unfold Tg.gs Tg.len
      obtain ⟨h1, h2⟩ := names_run is us ws (st.set i (some v)) (en.set i (some w)) Q rs (g.set r) (by simpa using hl) q
      refine ⟨by rw [List.length_cons, h1], v, us, rfl, ?_⟩
      unfold Tg.g
      exact h2
    | [], [], .nil => simp at hl
section
variable {X : Cx} {tgs es : List Expr} {kt k2 : Nat} {pt pt2 pos : Pos} {is : List Nat} {G : WA}
theorem ds_asgP (ha : DA X es G) (hg : DG X (.Tuple tgs kt pt) (.tp (is.map Tg.nm))) (hn : is.length ≤ 1000 := by decide) (hs : swapsWithSole [.Tuple tgs kt pt] (.Tuple es k2 pt2) pos.line X.env = pure false := by rfl)
    (hw : swappedStores [.Tuple tgs kt pt] (.Tuple es k2 pt2) X.env = pure none := by rfl) (h1 : (assignEach [.Tuple tgs kt pt] X.env).map (·.2) = [assign (.Tuple tgs kt pt) X.env] := by rfl) :
    DS X (.Assign [.Tuple tgs kt pt] (.Tuple es k2 pt2) pos) (wPar is G) := by
  refine ⟨fun B W tk => ⟨fun pins s st H Dn I ⟨m, en, S, dn, g, f, q1, q2, q3, q4⟩ => (ps_asg (pe_tup (ha.go B W tk)) hg.go hs hw h1).run pins s st H Dn I ⟨m, en, S, _, g, f, fun us H1 p1 => ?_⟩⟩⟩
  obtain ⟨m1, S1, ws, e1, r1, v1, hl, f1⟩ := p1
  have hl2 := v1.length
  refine ⟨by rw [hl2, hl]; exact line6 (Nat.le_trans hn (by decide)), fun p hp => ?_⟩
  have E : Ext m1 H1 m1 (upd H1 p (.tup us)) := Ext.new hp
  obtain ⟨h2, h3⟩ := names_run is us ws st en Dn.nx (RVs.mono E v1) ((g.env.mono e1).mono E) hl fun st' g' => q1 _ _ ⟨m1, S1, _, e1.trans E, r1.fresh hp, g', f1⟩
  exact ⟨p, us, rfl, .inl (.inl upd_same), h2, h3⟩
end
section
variable {W : XQ} {dn : DN} {en : Env} {S : Sto} {w1 w2 w3 w4 : WE} {i j l n : Nat} {f : Option Val → Option Val → Option Val → Option Val → Env} {g : Option Val → Option Val → Option Val → Env}
class Put4 (en : Env) (i j l n : Nat) (f : outParam (Option Val → Option Val → Option Val → Option Val → Env)) : Prop where
  eq : ∀ x y z u, (((en.set i x).set j y).set l z).set n u = f x y z u
instance [p : Put3 en i j l g] [q : ∀ x y z, Put (g x y z) n (f x y z)] : Put4 en i j l n f := ⟨fun x y z u => by rw [p.eq, (q x y z).eq]⟩
instance [p : Put4 en i j l n f] : Stp (wPar [i, j, l, n] (wCons w1 (wCons w2 (wCons w3 (wCons w4 wNil)))) W dn en S) (w1 W en S fun x S1 => w2 W en S1 fun y S2 => w3 W en S2 fun z S3 => w4 W en S3 fun u S4 => dn.nx (f (some x) (some y) (some z) (some u)) S4) := ⟨fun h => by
  have e : f = fun x y z u => (((en.set i x).set j y).set l z).set n u := funext fun x => funext fun y => funext fun z => funext fun u => (p.eq x y z u).symm
  subst e
  refine cast (congrArg (fun K => w1 W en S K) ?_) h
  funext x S1
  refine congrArg (fun K => w2 W en S1 K) ?_
  funext y S2
  refine congrArg (fun K => w3 W en S2 K) ?_
  funext z S3
  refine congrArg (fun K => w4 W en S3 K) ?_
  funext u S4
  simp [wNil]⟩
end
end DL

set_option Elab.async false
set_option linter.all false
set_option maxRecDepth 100000
set_option maxHeartbeats 4000000
/-! DL31: a store that is known at some numbers alone. -/
namespace DL
open PySem PySem.Spec PyProof.Rows L2 RZ
class InB (S : Sto) (i : Nat) : Prop where
  lt : i < S.length
class NeN (i j : Nat) : Prop where
  ne : i ≠ j
theorem StG.inb {S : Sto} {i : Nat} {o : Ob} (h : StG S i o) : InB S i := ⟨(List.getElem?_eq_some_iff.mp h.eq).1⟩
section
variable {S : Sto} {i j : Nat} {o x : Ob}
instance (priority := 50) : StP S i (fun x => S.set i x) := ⟨fun _ => rfl⟩
instance (priority := 60) [h : InB S i] : StG (S.set i x) i x := ⟨List.getElem?_set_self h.lt⟩
instance (priority := 60) [h : NeN i j] [g : StG S j o] : StG (S.set i x) j o := ⟨by rw [List.getElem?_set_ne h.ne]; exact g.eq⟩
instance (priority := 60) [h : InB S j] : InB (S.set i x) j := ⟨by rw [List.length_set]; exact h.lt⟩
instance (priority := 60) [h : InB S j] : InB (S ++ [x]) j := ⟨by rw [List.length_append]; exact Nat.lt_add_right _ h.lt⟩
instance (priority := 60) [h : InB S j] [g : StG S j o] : StG (S ++ [x]) j o := ⟨by rw [List.getElem?_append_left h.lt]; exact g.eq⟩
instance (priority := 1100) {n : Nat} [h : Ln S n] : Ln (S.set i x) n := ⟨by rw [List.length_set]; exact h.eq⟩
end
section
variable {S : Sto} {i n : Nat} {f : Ob → Sto} {ws : List Val} {ys : List PyData} {k : KE}
instance [p : StG S i (.lst ws)] [q : Ln S n] [s : Snc S f] : Stc (vAddM (.r i) (.d (.list ys)) S k) (ws.length + ys.length ≤ 1000000) (k (.r n) (f (.lst (ws ++ ys.map Val.d)))) := ⟨fun c h => by
  unfold vAddM
  simp only [lstW, p.eq]
  refine ⟨by rw [List.length_map]; exact c, ?_⟩
  rw [q.eq, s.eq]
  exact h⟩
end
/-! ### a list of lists given up -/
def killed (S : Sto) (is : List Nat) : Sto := is.foldl (fun S i => S.set i .dead) S
theorem killed_len (is : List Nat) : ∀ S : Sto, (killed S is).length = S.length := by
  induction is with
  | nil => intro S; rfl
  | cons i is ih =>
    intro S
    show (killed (S.set i .dead) is).length = _
    rw [ih, List.length_set]
theorem killed_at (is : List Nat) : ∀ (S : Sto) (j : Nat), j ∉ is → (killed S is)[j]? = S[j]? := by
  induction is with
  | nil => intro S j _; rfl
  | cons i is ih =>
    intro S j h
    show (killed (S.set i .dead) is)[j]? = _
    rw [ih _ j fun z => h (List.mem_cons_of_mem _ z), List.getElem?_set_ne fun z => h (by rw [z]; exact List.mem_cons_self)]
theorem frzL_refs (g : Nat → List PyData) : ∀ (is : List Nat) (S : Sto), is.Nodup → (∀ i ∈ is, S[i]? = some (.lst ((g i).map Val.d))) → frzL (is.map Val.r) S = some (is.map fun i => .list (g i), killed S is)
  | [], S, _, _ => rfl
  | i :: is, S, hn, h => by
    have hn := List.nodup_cons.mp hn
    have ih := frzL_refs g is (S.set i .dead) hn.2 fun j hj => by
      rw [List.getElem?_set_ne fun z => hn.1 (by rw [z]; exact hj)]
      exact h j (List.mem_cons_of_mem _ hj)
    rw [List.map_cons, frzL, h i List.mem_cons_self]
    simp only [dats_map, ih]
    rfl
end DL

set_option Elab.async false
set_option linter.all false
set_option maxRecDepth 100000
set_option maxHeartbeats 4000000
/-! DL32: tuple * int, once too. -/
namespace L2
open PySem PySem.Spec PyProof.Rows
theorem tuple_mul1 (l : Addr) (items : Array Value) (n : Nat) (dd : Option Addr) (sl : Array (Option Value)) (u : Tok) :
    Meets (Builtin.«tuple.__mul__» ⟨[.ref l, .int 1 u], []⟩) (fun _ R s => s.heap.get? l = some { cls := .type "tuple", dict := dd, data := .seq items n, slots := sl } ∧ R (.ok (.ret (Value.ref l))) s) :=
  .of_wp fun prog w A R s h => by
    obtain ⟨hp, g, d, tk, os⟩ := s
    obtain ⟨hl, h⟩ := h
    have f1 := AutoSeq1.idx_int
    have f2 := AutoSeq1.sub_tuple_tuple
    have c0 : (decide ((1 : Int) < -(2 ^ 63)) || decide ((1 : Int) ≥ 2 ^ 63)) = false := by decide
    have c1 : (items.isEmpty || (1 : Int) == 1) = true := by simp
    wp_walk using AutoSeq1.wpAny_loadPart' hl
    repeat (first
      | (refine wpAny_ite_false (decide_eq_false (by rw [c0]; exact Bool.false_ne_true)) ?_; wp_walk using AutoSeq1.wpAny_loadPart' hl)
      | (refine wpAny_ite_true (decide_eq_true c1) ?_; wp_walk using AutoSeq1.wpAny_loadPart' hl))
    exact ⟨_, rfl, h⟩
section
variable {X : Cx}
def rRep1 (K : PySem.W.Frag) : R2 := fun x y H Q => ∃ l xs, x = .ref l ∧ y = .int 1 ∧ SqT K H l xs ∧ Q (.ref l) H
theorem op_rep1 : OpR X (binaryOp .Mult) (rRep1 X.K) := by
  intro pins s σ H x y v u Q I rx ry h
  obtain ⟨l, xs, rfl, rfl, hT, q⟩ := h
  cases rx
  obtain ⟨t, rfl⟩ := ry
  obtain ⟨its, r, ⟨⟨cls, dd, data, sl⟩, ho, hc, n, hd⟩, hs⟩ := I.tuple hT
  simp only at hc hd
  subst hc hd
  refine wpAny_binaryOp_repeat_ref (T := "tuple") (U := "int") (by decide) ⟨_, ho, rfl⟩ (fun s' => typeIs_int s' 1 t) noFill_tuple_mul F.fills_int_mul F.slot_int_rmul repeat_tuple F.slot_int_index.lookup
    (call_meets F.slot_int_rmul (typeIs_int s 1 t) F.entry_int_rmul (F.args_int_rmul_2 _ _) (int_rmul_tuple 1 t l its.toArray n dd sl)
      ⟨ho, rfl, ⟨_, ho, rfl⟩, call_meets F.slot_tuple_mul ⟨_, ho, rfl⟩ F.entry_tuple_mul (F.args_tuple_mul_2 _ _) (tuple_mul1 l its.toArray n dd sl t) ⟨ho, ?_⟩⟩)
  exact ⟨.ref l, H, I, rfl, q⟩
end
end L2
namespace DL
open PySem PySem.Spec PyProof.Rows L2 RZ
def vMulA : R2D := fun x y S k => match x, y with
  | .d (.tuple xs), .d (.int j) => (1 ≤ j ∧ j ≤ 1000 ∧ xs ≠ [] ∧ xs.length ≤ 1000) ∧ k (.d (.tuple (List.replicate j.toNat xs).flatten)) S
  | _, _ => vMul x y S k
theorem od_mulA {X : Cx} : OpD X (binaryOp .Mult) vMulA := by
  intro pins s st H x y v u Q m S wx wy k I R vx vy rx ry h q
  unfold vMulA at h
  split at h
  · rename_i xs j
    obtain ⟨⟨h1, h2, h3, h4⟩, h5⟩ := h
    by_cases e : j = 1
    · subst e
      cases vx with
      | d dx =>
        obtain ⟨a, us, rfl, s1, d1⟩ := dx.tup_inv
        refine op_rep1 pins s st H _ y v u Q I rx ry ⟨a, us, rfl, int_inv vy, s1, q _ _ (Post.here R (.d dx) ?_)⟩
        simpa using h5
    · exact od_mul pins s st H x y v u Q m S _ _ k I R vx vy rx ry (show vMul (.d (.tuple xs)) (.d (.int j)) S k from ⟨by omega, h2, h3, h4, h5⟩) q
  · exact od_mul pins s st H x y v u Q m S wx wy k I R vx vy rx ry h q
instance {xs : List PyData} {j : Int} {S : Sto} {k : KE} : Stc (vMulA (.d (.tuple xs)) (.d (.int j)) S k) ((1 ≤ j ∧ j ≤ 1000) ∧ xs ≠ [] ∧ xs.length ≤ 1000) (k (.d (.tuple (List.replicate j.toNat xs).flatten)) S) := ⟨fun c h => ⟨⟨c.1.1, c.1.2, c.2.1, c.2.2⟩, h⟩⟩
theorem v_mulA1 {d : PyData} {n : Nat} {S : Sto} {k : KE} (h1 : 1 ≤ n) (h2 : n ≤ 1000) (h : k (.d (.tuple (List.replicate n d))) S) : vMulA (.d (.tuple [d])) (.d (.int (n : Nat))) S k := by
  refine ⟨⟨by omega, by omega, by simp, by simp⟩, ?_⟩
  have e : (List.replicate (n : Int).toNat [d]).flatten = List.replicate n d := by
    rw [Int.toNat_natCast]
    clear h1 h2 h
    induction n with
    | zero => rfl
    | succ n ih => rw [List.replicate_succ, List.flatten_cons, ih, List.replicate_succ]; rfl
  rw [e]
  exact h
end DL

set_option Elab.async false
set_option linter.all false
set_option maxRecDepth 100000
set_option maxHeartbeats 4000000
/-! DL33: d.get(k, x); d[k] = v. -/
namespace DL
open PySem PySem.Spec PyProof.Rows L2 RZ
def putVK (kvs : Kvs) (k : Key) (v : Val) : Kvs := if (kvs.any fun kv => decide (kv.1 = k)) = true then kvs.map (fun kv => if kv.1 = k then (kv.1, v) else kv) else kvs ++ [(k, v)]
theorem rkv_any {K : PySem.W.Frag} {m : Ids} {H : Hp} {k : Key} : ∀ {vs : List (Key × V)} {kvs : Kvs}, RKv K m H vs kvs → (vs.any fun kv => decide (kv.1 = k)) = (kvs.any fun kv => decide (kv.1 = k))
  | _, _, .nil => rfl
  | _, _, .cons h t => by rw [List.any_cons, List.any_cons, rkv_any t, h.1]
theorem rkv_map {K : PySem.W.Frag} {m : Ids} {H : Hp} {k : Key} {v : V} {w : Val} (r : RV K m H v w) : ∀ {vs : List (Key × V)} {kvs : Kvs}, RKv K m H vs kvs → RKv K m H (vs.map fun kv => if kv.1 = k then (kv.1, v) else kv) (kvs.map fun kv => if kv.1 = k then (kv.1, w) else kv)
  | _, _, .nil => .nil
  | p :: vs, q :: kvs, .cons h t => by
    rw [List.map_cons, List.map_cons]
    refine .cons ?_ (rkv_map r t)
    by_cases e : p.1 = k
    · rw [if_pos e, if_pos (by rw [← h.1]; exact e)]
      exact ⟨h.1, r⟩
    · rw [if_neg e, if_neg (by rw [← h.1]; exact e)]
      exact h
theorem rkv_put {K : PySem.W.Frag} {m : Ids} {H : Hp} {k : Key} {v : V} {w : Val} (r : RV K m H v w) {vs : List (Key × V)} {kvs : Kvs} (h : RKv K m H vs kvs) : RKv K m H (putK vs k v) (putVK kvs k w) := by
  unfold putK putVK
  rw [rkv_any h]
  split
  · exact rkv_map r h
  · exact rkv_app h (.cons ⟨rfl, r⟩ .nil)
def vGet2 (o y z : Val) (S : Sto) (k : KE) : Prop := match o, y with
  | .r i, .d d => match S[i]? with
    | some (.dct kvs) => match keyD d with
      | some c => k ((valW kvs c).getD z) S
      | none => False
    | _ => False
  | _, _ => False
def get2K (Fk Fv : WE) (W : XQ) (en : Env) (k : KE) : KE := fun o S1 => isDct S1 o ∧ Fk W en S1 fun y S2 => Fv W en S2 fun z S3 => vGet2 o y z S3 k
def wGet2 (Fo Fk Fv : WE) : WE := fun W en S k => Fo W en S (get2K Fk Fv W en k)
def vPut (o y v : Val) (S : Sto) (ks : Sto → Prop) : Prop := match o, y with
  | .r i, .d d => match S[i]? with
    | some (.dct kvs) => match keyD d with
      | some c => kvs.length < 1000000 ∧ ks (S.set i (.dct (putVK kvs c v)))
      | none => False
    | _ => False
  | _, _ => False
def wPut (Fo Fi Fv : WE) : WS := fun W dn en S => Fv W en S fun v S1 => Fo W en S1 fun o S2 => Fi W en S2 fun y S3 => vPut o y v S3 fun S4 => dn.nx en S4
section
variable {X : Cx} {pos apos cpos pos' : Pos} {o e f i value : Expr} {Fo Fk Fv Fi : WE}
theorem de_get2 (hu : X.A.units + 1 < cLine) (ho : DE X o Fo) (he : DE X e Fk) (hf : DE X f Fv) (base : attributeBase o "get" X.env (eval o X.env) = eval o X.env := by rfl)
    (few : ((backTo cpos (starEach [e, f] X.env)).all (fun x => !x.1) && (backToKw cpos (keywordEach [] X.env)).all (fun x => x.1.isSome)
    && decide (([e, f] : List Expr).length + ([] : List Keyword).length + (if ([] : List Keyword).isEmpty then 0 else 1) < 30)) = true := by rfl)
    (line : (apos.endLine == cpos.line) = true := by rfl) (trees : backTo cpos (starEach [e, f] X.env) = [(false, eval e X.env), (false, eval f X.env)] := by rfl) : DE X (.Call (.Attribute o "get" apos) [e, f] [] cpos) (wGet2 Fo Fk Fv) := by
  refine ⟨fun B W tk => ⟨fun pins s st H Q I ⟨m, en, S, k, g, fk, q⟩ => (pe_dget2 hu (ho.go B W tk) (he.go B W tk) (hf.go B W tk) ⟨base, few, line, trees⟩).run pins s st H Q I ?_⟩⟩
  refine ⟨m, en, S, _, g, fk, fun x H1 p1 => ?_⟩
  obtain ⟨m1, S1, w1, e1, r1, v1, d1, h1⟩ := p1
  cases w1 with
  | r i =>
    obtain ⟨kvs, ek⟩ := d1
    obtain ⟨a, rfl, hm, vs, g1, g2⟩ := v1.obj r1 ek (by intro z; cases z)
    refine ⟨a, rfl, .inl ⟨vs, .inl g1⟩, m1, en, S1, _, g.next e1 r1, h1, fun y H2 p2 => ?_⟩
    obtain ⟨m2, S2, w2, e2, r2, v2, h2⟩ := p2
    refine ⟨m2, en, S2, _, (g.next e1 r1).next e2 r2, h2, fun z H3 p3 => ?_⟩
    obtain ⟨m3, S3, w3, e3, r3, v3, h3⟩ := p3
    unfold vGet2 at h3
    have vo : RV X.K m3 H3 (.ref a) (.r i) := ((RV.r hm).mono e2).mono e3
    cases w2 with
    | d d =>
      simp only at h3
      split at h3
      · rename_i kvs3 ek3
        split at h3
        · rename_i c ec
          obtain ⟨a', ea, hm3, vs3, g3, g4⟩ := vo.obj r3 ek3 (by intro z; cases z)
          cases ea
          have vy : RD X.K m3 H3 y d := by
            cases v2 with
            | d v2 => exact v2.mono e3
          have E : Ext m H m3 H3 := (e1.trans e2).trans e3
          refine ⟨valV vs3 c, .inl ⟨vs3, c, .inl g3, keyD_rel vy ec, rfl⟩, ?_⟩
          rcases rkv_val (k := c) g4 with ⟨q1, q2⟩ | ⟨v', w', q1, q2, q3⟩
          · rw [q1]
            rw [q2] at h3
            exact q _ _ ⟨m3, S3, _, E, r3, v3, h3⟩
          · rw [q1]
            rw [q2] at h3
            exact q _ _ ⟨m3, S3, _, E, r3, q3, h3⟩
        · exact h3.elim
      · exact h3.elim
    | _ => exact h3.elim
  | _ => exact d1.elim
theorem ds_put (hu : X.A.units + 1 < cLine) (ho : DE X o Fo) (hi : DE X i Fi) (hv : DE X value Fv) (hs : swapsWith value (some (.Subscript o i pos')) pos.line X.env = pure false := by rfl) :
    DS X (.Assign [.Subscript o i pos'] value pos) (wPut Fo Fi Fv) := by
  refine ⟨fun B W tk => ⟨fun pins s st H Dn I ⟨m, en, S, dn, g, f, q1, q2, q3, q4⟩ => (ps_dput hu (ho.go B W tk) (hi.go B W tk) (hv.go B W tk) hs).run pins s st H Dn I ?_⟩⟩
  refine ⟨m, en, S, _, g, f, fun v H1 p1 => ?_⟩
  obtain ⟨m1, S1, w1, e1, r1, v1, h1⟩ := p1
  refine ⟨m1, en, S1, _, g.next e1 r1, h1, fun x H2 p2 => ?_⟩
  obtain ⟨m2, S2, w2, e2, r2, v2, h2⟩ := p2
  refine ⟨m2, en, S2, _, (g.next e1 r1).next e2 r2, h2, fun y H3 p3 => ?_⟩
  obtain ⟨m3, S3, w3, e3, r3, v3, h3⟩ := p3
  unfold vPut at h3
  split at h3
  · rename_i n d
    split at h3
    · rename_i kvs ek
      split at h3
      · rename_i c ec
        obtain ⟨hl, h3⟩ := h3
        obtain ⟨a, rfl, hm, vs, g3, g4⟩ := (v2.mono e3).obj r3 ek (by intro z; cases z)
        have vy : RD X.K m3 H3 y d := by
          cases v3 with
          | d v3 => exact v3
        have E : Ext m H m3 H3 := (e1.trans e2).trans e3
        have rv := (v1.mono e2).mono e3
        refine ⟨a, _, rfl, .inl ⟨vs, c, g3, keyD_rel vy ec, by rw [rkv_len g4]; exact line6' hl, rfl⟩, ?_⟩
        have Es : Ext m3 H3 m3 (upd H3 a (.dK (putK vs c v))) := Ext.set hm
        refine q1 _ _ ⟨m3, S3.set n (.dct (putVK kvs c w1)), en, E.trans Es, r3.set hm ⟨_, upd_same, pair_mono Es (rkv_put rv g4)⟩ (fun u hu φ z => by rw [g3] at hu; cases hu; cases z), (g.env.mono E).mono Es, h3⟩
      · exact h3.elim
    · exact h3.elim
  · exact h3.elim
end
section
variable {W : XQ} {dn : DN} {en : Env} {S : Sto} {k : KE} {Fo Fk Fv : WE} {i : Nat} {f : Ob → Sto} {kvs : Kvs} {x : Str} {z : Val} {ks : Sto → Prop}
instance : Stp (wGet2 Fo Fk Fv W en S k) (Fo W en S (get2K Fk Fv W en k)) := ⟨id⟩
instance [p : StG S i (.dct kvs)] : Stp (get2K Fk Fv W en k (.r i) S) (Fk W en S fun y S2 => Fv W en S2 fun z S3 => vGet2 (.r i) y z S3 k) := ⟨fun h => ⟨⟨kvs, p.eq⟩, h⟩⟩
instance [p : StG S i (.dct kvs)] : Stp (vGet2 (.r i) (.d (.str x)) z S k) (k ((valW kvs (.inr x)).getD z) S) := ⟨fun h => by
  unfold vGet2
  simp only [p.eq, keyD]
  exact h⟩
instance : Stp (wPut Fo Fk Fv W dn en S) (Fv W en S fun v S1 => Fo W en S1 fun o S2 => Fk W en S2 fun y S3 => vPut o y v S3 fun S4 => dn.nx en S4) := ⟨id⟩
instance [p : StG S i (.dct kvs)] [s : StP S i f] : Stc (vPut (.r i) (.d (.str x)) z S ks) (kvs.length < 1000000) (ks (f (.dct (putVK kvs (.inr x) z)))) := ⟨fun c h => by
  unfold vPut
  simp only [p.eq, keyD]
  exact ⟨c, by rw [s.eq]; exact h⟩⟩
end
end DL

set_option Elab.async false
set_option linter.all false
set_option maxRecDepth 100000
set_option maxHeartbeats 4000000
/-! DL34: a comprehension of two clauses. -/
namespace DL
open PySem PySem.Spec PyProof.Rows L2
theorem wipe_idem (vs : List Nat) (st : L2.St) : L2.wipe (L2.wipe st vs) vs = L2.wipe st vs := by
  have one : ∀ (vs : List Nat) (st : L2.St) (i : Nat), i ∈ vs → (L2.wipe st vs).set i none = L2.wipe st vs := by
    intro vs
    induction vs with
    | nil => intro st i h; cases h
    | cons v vs ih =>
      intro st i h
      unfold L2.wipe
      by_cases z : i = v
      · rw [z, List.set_set]
      · rcases List.mem_cons.mp h with h | h
        · exact absurd h z
        · rw [List.set_comm _ _ (Ne.symm z), ih st i h]
  have all : ∀ (us vs : List Nat) (st : L2.St), (∀ i ∈ us, i ∈ vs) → L2.wipe (L2.wipe st vs) us = L2.wipe st vs := by
    intro us
    induction us with
    | nil => intro vs st _; rfl
    | cons u us ih =>
      intro vs st h
      show (L2.wipe (L2.wipe st vs) us).set u none = _
      rw [ih vs st fun i hi => h i (List.mem_cons_of_mem _ hi)]
      exact one vs st u (h u List.mem_cons_self)
  exact all vs vs st fun _ h => h
theorem Tr.exo {m m1 : Ids} {H H1 : Hp} (e : Tr m H m1 H1) : Exo m H m1 H1 := ⟨fun a o h n _ => e.keep a o h n, fun i x h => .inl (by rw [e.l]; exact h)⟩
/-- the turns of two clauses -/
def wLcT2 (t : Tg) (T : WT) (vs1 : List Nat) (I1 : WI) (t1 : Tg) (T1 : WT) (E : WE) (ok : Sto → Prop) (en : Env) (k : KA) : List Val → List Val → Sto → Prop
  | [], acc, S => ok S ∧ k acc S
  | w :: ws, acc, S => ok S ∧ match t.w w en with
    | some en' => T noX en' S fun b S1 => if b = true then I1 noX en' S1 fun ws1 ok1 S2 => wLcT t1 T1 E ok1 (wipeE en' vs1) (fun acc' S3 => wLcT2 t T vs1 I1 t1 T1 E ok en k ws acc' S3) ws1 acc S2 else wLcT2 t T vs1 I1 t1 T1 E ok en k ws acc S1
    | none => False
def wLcA2 (vs vs1 : List Nat) (t : Tg) (I : WI) (T : WT) (t1 : Tg) (I1 : WI) (T1 : WT) (E : WE) (W : XQ) (en : Env) (S : Sto) (k : KA) : Prop := (∀ i ∈ t.sl, i ∈ vs) ∧ (∀ i ∈ t1.sl, i ∈ vs1) ∧ I W en S fun ws ok S1 => wLcT2 t T vs1 I1 t1 T1 E ok (wipeE en vs) k ws [] S1
def wLc2 (vs vs1 : List Nat) (t : Tg) (I : WI) (T : WT) (t1 : Tg) (I1 : WI) (T1 : WT) (E : WE) : WE := fun W en S k => wLcA2 vs vs1 t I T t1 I1 T1 E W en S fun ws S1 => match dats ws with
  | some xs => k (.d (.list xs)) S1
  | none => False
section
variable {X : Cx} {elt tg iter tg1 iter1 : Expr} {ifs ifs1 : List Expr} {scope : Scope} {own : List (Str × Nat)} {pos : Pos} {F F1 : WI} {t t1 : Tg} {T T1 : WT} {E : WE}
theorem wLcT2_ok {vs1 : List Nat} {ok : Sto → Prop} {en : Env} {k : KA} {ws acc : List Val} {S : Sto} (h : wLcT2 t T vs1 F1 t1 T1 E ok en k ws acc S) : ok S := by
  cases ws with
  | nil => unfold wLcT2 at h; exact h.1
  | cons w ws => unfold wLcT2 at h; exact h.1
/-- the inner turns: the list is at hand already -/
theorem lc_in {K : PySem.W.Frag} {st : L2.St} {Qd : Hp → Prop} {en : Env} {k : KA} {J : It} {H0 H1 : Hp} {vs : List Nat} {m0 m1 : Ids} {S1 : Sto} {ws acc0 : List Val} {us0 : List V} {ok : Sto → Prop}
    (hm : ∀ i ∈ t.sl, i ∈ vs) (D0 : Addr) (hD : H0 D0 = none) (e1 : Ext m0 H0 m1 H1) (ho1 : D0 ∈ m1.o) (r1 : Rel K m1 H1 S1) (g1 : REnv K m1 H1 st en) (hd1 : H1 D0 = some (.lst us0)) (v1 : RVs K m1 H1 us0 acc0) (io : ItOk K m1 H1 J ws ok) (h1 : wLcT t T E ok (wipeE en vs) k ws acc0 S1)
    (fin : ∀ m2 H2 S2 us ws2, Ext m0 H0 m2 H2 → Rel K m2 H2 S2 → H2 D0 = some (.lst us) → D0 ∈ m2.o → RVs K m2 H2 us ws2 → k ws2 S2 → Qd H2) :
    ∃ Wi : Nat → Nat → Hp → Prop, (∃ n, Wi 0 n H1) ∧ ∀ i n H, Wi i n H → (J.stop i H ∧ Qd H) ∨ (J.go i H ∧ ∃ Nx : Hp → Prop, (∀ H', Nx H' → ∃ n', n' < n ∧ Wi (i + 1) n' H') ∧
      ∀ x H', J.yld i H x H' → t.g K x (L2.wipe st vs) H' fun st2 H2 => L2.wipe st2 vs = L2.wipe st vs ∧ lT K B0 T noX st2 H2 fun b H3 =>
        if b = true then lE K B0 E noX st2 H3 fun y H4 => ∃ acc, H4 D0 = some (.lst acc) ∧ acc.length < sizeLine ∧ Nx (upd H4 D0 (.lst (acc ++ [y]))) else Nx H3) := by
  refine ⟨fun i n H' => n = ws.length - i ∧ i ≤ ws.length ∧ ∃ m' S' us acc, Ext m0 H0 m' H' ∧ Exo m1 H1 m' H' ∧ D0 ∈ m'.o ∧ Rel K m' H' S' ∧ REnv K m' H' st en ∧ H' D0 = some (.lst us) ∧ RVs K m' H' us acc ∧ wLcT t T E ok (wipeE en vs) k (ws.drop i) acc S',
    ⟨ws.length, by simp, Nat.zero_le _, m1, S1, us0, acc0, e1, Exo.refl, ho1, r1, g1, hd1, v1, by simpa using h1⟩, ?_⟩
  rintro i n H' ⟨rfl, hi, m', S', us, acc, e', x', ho, r', g', hd', v', h'⟩
  have iok := io m' H' S' x' r' (wLcT_ok h') i
  by_cases hlt : i < ws.length
  · refine .inr ?_
    rw [List.drop_eq_getElem_cons hlt] at h'
    obtain ⟨_, h'⟩ := h'
    obtain ⟨go, yl⟩ := iok.1 ws[i] (List.getElem?_eq_getElem hlt)
    refine ⟨go, fun H2 => ∃ m2 S2 us acc, Ext m0 H0 m2 H2 ∧ Exo m1 H1 m2 H2 ∧ D0 ∈ m2.o ∧ Rel K m2 H2 S2 ∧ REnv K m2 H2 st en ∧ H2 D0 = some (.lst us) ∧ RVs K m2 H2 us acc ∧ wLcT t T E ok (wipeE en vs) k (ws.drop (i + 1)) acc S2,
      fun H2 hN => ⟨ws.length - (i + 1), by omega, rfl, hlt, hN⟩, fun x H2 y => ?_⟩
    obtain ⟨m2, em2, e2, r2, v2⟩ := yl x H2 y
    split at h'
    · rename_i en2 ee
      have on : ∀ {m3 : Ids} {H3 : Hp} {S3 : Sto}, Ext m' H' m3 H3 → Rel K m3 H3 S3 → Ext m0 H0 m3 H3 ∧ D0 ∈ m3.o ∧ REnv K m3 H3 st en ∧ H3 D0 = some (.lst us) ∧ RVs K m3 H3 us acc := fun {m3 H3 S3} e3 r3 =>
        ⟨e'.trans e3, e3.out.1 _ ho, g'.mono e3, (e3.keep _ _ hd' (r'.out _ ho).2).1, RVs.mono e3 v'⟩
      refine Tg.run t x ws[i] _ _ en2 _ v2 ((g'.mono e2).wipe vs) ee fun st3 g3 hw => ?_
      refine ⟨?_, m2, en2, S', _, ⟨Ext.base, r2, g3⟩, h', fun b H3 p3 => ?_⟩
      · rw [hw vs hm]
        exact wipe_idem vs st
      · obtain ⟨m3, S3, e3, r3, h3⟩ := p3
        cases b with
        | false =>
          obtain ⟨a1, a2, a3, a4, a5⟩ := on (e2.trans e3) r3
          exact ⟨m3, S3, us, acc, a1, x'.trans (e2.trans e3).exo, a2, r3, a3, a4, a5, h3⟩
        | true =>
          refine ⟨m3, en2, S3, _, ⟨Ext.base, r3, g3.mono e3⟩, h3, fun y H4 p4 => ?_⟩
          obtain ⟨m4, S4, w4, e4, r4, v4, hl, h4⟩ := p4
          obtain ⟨a1, a2, a3, a4, a5⟩ := on ((e2.trans e3).trans e4) r4
          have tu : Tr m4 H4 m4 (upd H4 D0 (.lst (us ++ [y]))) := tr_upd a2
          refine ⟨us, a4, ?_, m4, S4, us ++ [y], acc ++ [w4], ?_, (x'.trans ((e2.trans e3).trans e4).exo).trans tu.exo, a2, r4.updO a2 (fun u hu φ z => by rw [a4] at hu; cases hu; cases z), a3.tr tu, upd_same, RVs.append (RVs.tr tu a5) (.cons (v4.tr tu) .nil), h4⟩
          · rw [a5.length]
            exact line6' hl
          · refine ⟨fun a o h n => ⟨fun nt => ?_, (a1.kp a o h n).2⟩, a1.ids, a1.out, fun a o h => ?_⟩
            · rw [upd_ne (fun (z : a = D0) => by rw [z, hD] at h; cases h)]
              exact (a1.kp a o h n).1 nt
            · obtain ⟨o', q⟩ := a1.th a o h
              exact upd_th a o' q
    · exact h'.elim
  · have e : i = ws.length := by omega
    subst e
    rw [List.drop_length] at h'
    exact .inl ⟨iok.2 (Nat.le_refl _), fin m' H' S' us acc e' r' hd' ho v' h'.2⟩
/-- the outer turns -/
theorem lc_of2 {K : PySem.W.Frag} {st : L2.St} {Qd : Hp → Prop} {en : Env} {k : KA} {J : It} {H1 : Hp} {vs vs1 : List Nat} {m1 : Ids} {S1 : Sto} {ws : List Val} {ok : Sto → Prop}
    (hm : ∀ i ∈ t.sl, i ∈ vs) (hm1 : ∀ i ∈ t1.sl, i ∈ vs1) (r1 : Rel K m1 H1 S1) (g1 : REnv K m1 H1 st en) (io : ItOk K m1 H1 J ws ok) (h1 : wLcT2 t T vs1 F1 t1 T1 E ok (wipeE en vs) k ws [] S1) (D0 : Addr) (hD : H1 D0 = none)
    (fin : ∀ m2 H2 S2 us ws2, Ext m1 H1 m2 H2 → Rel K m2 H2 S2 → H2 D0 = some (.lst us) → D0 ∈ m2.o → D0 ∉ m1.o → RVs K m2 H2 us ws2 → k ws2 S2 → Qd H2) :
    ∃ Wi : Nat → Nat → Hp → Prop, (∃ n, Wi 0 n (upd H1 D0 (.lst []))) ∧ ∀ i n H, Wi i n H → (J.stop i H ∧ Qd H) ∨ (J.go i H ∧ ∃ Nx : Hp → Prop, (∀ H', Nx H' → ∃ n', n' < n ∧ Wi (i + 1) n' H') ∧
      ∀ x H', J.yld i H x H' → t.g K x (L2.wipe st vs) H' fun st2 H2 => L2.wipe st2 vs = L2.wipe st vs ∧ lT K B0 T noX st2 H2 fun b H3 =>
        if b = true then lI K B0 F1 noX st2 H3 fun J1 H4 => ∃ W1 : Nat → Nat → Hp → Prop, (∃ n, W1 0 n H4) ∧ ∀ j n H, W1 j n H →
          (J1.stop j H ∧ Nx H) ∨ (J1.go j H ∧ ∃ Nx1 : Hp → Prop, (∀ H', Nx1 H' → ∃ n', n' < n ∧ W1 (j + 1) n' H') ∧ ∀ x H', J1.yld j H x H' → t1.g K x (L2.wipe st2 vs1) H' fun st3 H5 => L2.wipe st3 vs1 = L2.wipe st2 vs1 ∧ lT K B0 T1 noX st3 H5 fun b H6 =>
            if b = true then lE K B0 E noX st3 H6 fun y H7 => ∃ acc, H7 D0 = some (.lst acc) ∧ acc.length < sizeLine ∧ Nx1 (upd H7 D0 (.lst (acc ++ [y]))) else Nx1 H6)
        else Nx H3) := by
  have nD := r1.newF hD
  refine ⟨fun i n H' => n = ws.length - i ∧ i ≤ ws.length ∧ ∃ m' S' us acc, Ext m1 H1 m' H' ∧ D0 ∈ m'.o ∧ Rel K m' H' S' ∧ H' D0 = some (.lst us) ∧ RVs K m' H' us acc ∧ wLcT2 t T vs1 F1 t1 T1 E ok (wipeE en vs) k (ws.drop i) acc S',
    ⟨ws.length, by simp, Nat.zero_le _, m1.sh D0, S1, [], [], ?_, List.mem_cons_self, r1.sh hD, upd_same, .nil, by simpa using h1⟩, ?_⟩
  · refine ⟨fun a o e n => ⟨fun _ => by rw [upd_ne (ne_of_none e hD)]; exact e, n⟩, fun _ _ e => .inl e, ⟨fun a h => List.mem_cons_of_mem _ h, fun a h => ?_⟩, upd_th⟩
    rcases List.mem_cons.mp h with z | z
    · exact .inr (by rw [z]; exact hD)
    · exact .inl z
  · rintro i n H' ⟨rfl, hi, m', S', us, acc, e', ho, r', hd', v', h'⟩
    have iok := io m' H' S' e'.exo r' (wLcT2_ok h') i
    by_cases hlt : i < ws.length
    · refine .inr ?_
      rw [List.drop_eq_getElem_cons hlt] at h'
      unfold wLcT2 at h'
      obtain ⟨_, h'⟩ := h'
      obtain ⟨go, yl⟩ := iok.1 ws[i] (List.getElem?_eq_getElem hlt)
      refine ⟨go, fun H2 => ∃ m2 S2 us acc, Ext m1 H1 m2 H2 ∧ D0 ∈ m2.o ∧ Rel K m2 H2 S2 ∧ H2 D0 = some (.lst us) ∧ RVs K m2 H2 us acc ∧ wLcT2 t T vs1 F1 t1 T1 E ok (wipeE en vs) k (ws.drop (i + 1)) acc S2,
        fun H2 hN => ⟨ws.length - (i + 1), by omega, rfl, hlt, hN⟩, fun x H2 y => ?_⟩
      obtain ⟨m2, em2, e2, r2, v2⟩ := yl x H2 y
      split at h'
      · rename_i en2 ee
        have on : ∀ {m3 : Ids} {H3 : Hp} {S3 : Sto}, Ext m' H' m3 H3 → Rel K m3 H3 S3 → Ext m1 H1 m3 H3 ∧ D0 ∈ m3.o ∧ H3 D0 = some (.lst us) ∧ RVs K m3 H3 us acc := fun {m3 H3 S3} e3 r3 =>
          ⟨e'.trans e3, e3.out.1 _ ho, (e3.keep _ _ hd' (r'.out _ ho).2).1, RVs.mono e3 v'⟩
        refine Tg.run t x ws[i] _ _ en2 _ v2 ((g1.mono (e'.trans e2)).wipe vs) ee fun st3 g3 hw => ?_
        refine ⟨?_, m2, en2, S', _, ⟨Ext.base, r2, g3⟩, h', fun b H3 p3 => ?_⟩
        · rw [hw vs hm]
          exact wipe_idem vs st
        · obtain ⟨m3, S3, e3, r3, h3⟩ := p3
          cases b with
          | false =>
            obtain ⟨a1, a2, a4, a5⟩ := on (e2.trans e3) r3
            exact ⟨m3, S3, us, acc, a1, a2, r3, a4, a5, h3⟩
          | true =>
            refine ⟨m3, en2, S3, _, ⟨Ext.base, r3, g3.mono e3⟩, h3, fun J1 H4 p4 => ?_⟩
            obtain ⟨m4, S4, ws1, ok1, e4, r4, io4, h4⟩ := p4
            obtain ⟨a1, a2, a4, a5⟩ := on ((e2.trans e3).trans e4) r4
            exact lc_in hm1 D0 hD a1 a2 r4 (g3.mono (e3.trans e4)) a4 a5 io4 h4 fun m5 H5 S5 us5 ws5 b1 b2 b3 b4 b5 b6 => ⟨m5, S5, us5, ws5, b1, b4, b2, b3, b5, b6⟩
      · exact h'.elim
    · have e : i = ws.length := by omega
      subst e
      rw [List.drop_length] at h'
      unfold wLcT2 at h'
      exact .inl ⟨iok.2 (Nat.le_refl _), fin m' H' S' us acc e' r' hd' ho nD.2 v' h'.2⟩
theorem lc_read2 {K : PySem.W.Frag} {B : Bs} {W : XQ} {st : L2.St} {H : Hp} {Q : VK} {k : KA} {m : Ids} {en : Env} {S : Sto} {vs vs1 : List Nat} (g : Stg K B m H S st en) (f : wLcA2 vs vs1 t F T t1 F1 T1 E W en S k)
    (fin : ∀ (m2 : Ids) (H2 : Hp) (S2 : Sto) (us : List V) (ws2 : List Val) (D0 : Addr), Ext m H m2 H2 → Rel K m2 H2 S2 → H2 D0 = some (.lst us) → D0 ∈ m2.o → H D0 = none → D0 ∉ m.o → RVs K m2 H2 us ws2 → k ws2 S2 → Q (.ref D0) H2) :
    tLc2 (lI K B F W) (t.g K) (lT K B0 T noX) (lI K B0 F1 noX) (t1.g K) (lT K B0 T1 noX) (lE K B0 E noX) vs vs1 st H Q := by
  obtain ⟨hm, hm1, f⟩ := f
  refine ⟨m, en, S, _, g, f, fun J H1 p1 => ?_⟩
  obtain ⟨m1, S1, ws, ok, e1, r1, io, h1⟩ := p1
  intro D0 hD
  refine lc_of2 hm hm1 r1 (g.env.mono e1) io h1 D0 hD fun m2 H2 S2 us ws2 e2 r2 q1 q2 q6 q3 q4 => fin m2 H2 S2 us ws2 D0 (e1.trans e2) r2 q1 q2 ?_ (fun z => q6 (e1.out.1 _ z)) q3 q4
  cases q : H D0 with
  | none => rfl
  | some o =>
    obtain ⟨o', q'⟩ := e1.th D0 o q
    rw [hD] at q'
    cases q'
theorem lc_data2 {K : PySem.W.Frag} {B : Bs} {W : XQ} {st : L2.St} {H : Hp} {Q : VK} {k : KE} {m : Ids} {en : Env} {S : Sto} {vs vs1 : List Nat} (g : Stg K B m H S st en) (f : wLc2 vs vs1 t F T t1 F1 T1 E W en S k) (q : ∀ v H', Post K m H k v H' → Q v H') :
    tLc2 (lI K B F W) (t.g K) (lT K B0 T noX) (lI K B0 F1 noX) (t1.g K) (lT K B0 T1 noX) (lE K B0 E noX) vs vs1 st H Q := lc_read2 g f fun m2 H2 S2 us ws2 D0 e2 r2 q1 q2 q3 q6 q4 q5 => by
  split at q5
  · rename_i xs ed
    have nDl := (r2.out D0 q2).2
    have T0 : Tr m2 H2 (m2.gv D0) H2 := ⟨rfl, fun a u e n => ⟨e, n.1, fun z => n.2 (List.mem_filter.mp z).1⟩⟩
    refine q _ _ ⟨m2.gv D0, S2, _, ?_, ?_, .d (.lst q1 ⟨nDl, fun z => ?_⟩ ((dats_rel q4 ed).tr T0)), q5⟩
    · refine ⟨e2.kp, e2.ids, ⟨fun a h => List.mem_filter.mpr ⟨e2.out.1 a h, ?_⟩, fun a h => e2.out.2 a (List.mem_filter.mp h).1⟩, e2.th⟩
      exact decide_eq_true fun (z : a = D0) => q6 (by rw [← z]; exact h)
    · exact ⟨r2.len, r2.inj, fun i x u e1 e2 => (r2.ob i x u e1 e2).tr T0 fun a ea u hu => hu, r2.dd, r2.tr, fun a ha => r2.out a (List.mem_filter.mp ha).1, r2.tb.same fun q hq => ⟨(r2.tb.fr q hq).1, fun z => (r2.tb.fr q hq).2 (List.mem_filter.mp z).1⟩⟩
    · have q := (List.mem_filter.mp z).2
      simp at q
  · exact q5.elim
theorem de_lc2 {vs1 : List Nat} (hc : X.calm = true) (hN : X.N.Nodup) (hi : DI X tg iter F) (ok : BlkOk X.N X.env.scope scope own) (hv : ∀ i ∈ vs1, i ∈ own.map (·.2))
    (hg : ∀ (s : Shared) (H : Hp) (C : Addr) (cl : List (Str × Addr)) (fp : List Addr), DG (X.blk s H scope (compEnvC scope cl C X.env) fp) tg t) (ht : ∀ (s : Shared) (H : Hp) (C : Addr) (cl : List (Str × Addr)) (fp : List Addr), DTs (X.blk s H scope (compEnvC scope cl C X.env) fp) ifs T)
    (hi1 : ∀ (s : Shared) (H : Hp) (C : Addr) (cl : List (Str × Addr)) (fp : List Addr), DI (X.blk s H scope (compEnvC scope cl C X.env) fp) tg1 iter1 F1)
    (hg1 : ∀ (s : Shared) (H : Hp) (C : Addr) (cl : List (Str × Addr)) (fp : List Addr), DG (X.blk s H scope (compEnvC scope cl C X.env) fp) tg1 t1) (ht1 : ∀ (s : Shared) (H : Hp) (C : Addr) (cl : List (Str × Addr)) (fp : List Addr), DTs (X.blk s H scope (compEnvC scope cl C X.env) fp) ifs1 T1)
    (he : ∀ (s : Shared) (H : Hp) (C : Addr) (cl : List (Str × Addr)) (fp : List Addr), DE (X.blk s H scope (compEnvC scope cl C X.env) fp) elt E) (hs : ∀ x, foldedSetIterable iter X.env x = pure x := by intro _; rfl) (hs1 : ∀ env x, foldedSetIterable iter1 env x = pure x := by intro _ _; rfl) :
    DE X (.ListComp elt [⟨tg, iter, ifs, 0⟩, ⟨tg1, iter1, ifs1, 0⟩] scope pos) (wLc2 (own.map (·.2)) vs1 t F T t1 F1 T1 E) :=
  ⟨fun B W tk => ⟨fun pins s st H Q I ⟨m, en, S, k, g, f, q⟩ => (pe_lc2 hc hN (hi.go B W tk) ok hv (fun s H C cl fp => (hg s H C cl fp).go) (fun s H C cl fp => (ht s H C cl fp).go B0 noX takes_no) (fun s H C cl fp => (hi1 s H C cl fp).go B0 noX takes_no) (fun s H C cl fp => (hg1 s H C cl fp).go) (fun s H C cl fp => (ht1 s H C cl fp).go B0 noX takes_no) (fun s H C cl fp => (he s H C cl fp).go B0 noX takes_no) hs hs1).run pins s st H Q I (lc_data2 g f q)⟩⟩
theorem ds_setLc2 {vs1 : List Nat} {i : Nat} {y : Str} {py spos : Pos} (hc : X.calm = true) (hN : X.N.Nodup) (hy : X.N[i]? = some y) (hyl : X.env.scope.names.lookup y = some .local)
    (hsw : swapsWith (.ListComp elt [⟨tg, iter, ifs, 0⟩, ⟨tg1, iter1, ifs1, 0⟩] scope pos) (some (.Name y py)) spos.line X.env = pure true) (hi : DI X tg iter F) (ok : BlkOk X.N X.env.scope scope own) (hv : ∀ i ∈ vs1, i ∈ own.map (·.2))
    (hg : ∀ (s : Shared) (H : Hp) (C : Addr) (cl : List (Str × Addr)) (fp : List Addr), DG (X.blk s H scope (compEnvC scope cl C X.env) fp) tg t) (ht : ∀ (s : Shared) (H : Hp) (C : Addr) (cl : List (Str × Addr)) (fp : List Addr), DTs (X.blk s H scope (compEnvC scope cl C X.env) fp) ifs T)
    (hi1 : ∀ (s : Shared) (H : Hp) (C : Addr) (cl : List (Str × Addr)) (fp : List Addr), DI (X.blk s H scope (compEnvC scope cl C X.env) fp) tg1 iter1 F1)
    (hg1 : ∀ (s : Shared) (H : Hp) (C : Addr) (cl : List (Str × Addr)) (fp : List Addr), DG (X.blk s H scope (compEnvC scope cl C X.env) fp) tg1 t1) (ht1 : ∀ (s : Shared) (H : Hp) (C : Addr) (cl : List (Str × Addr)) (fp : List Addr), DTs (X.blk s H scope (compEnvC scope cl C X.env) fp) ifs1 T1)
    (he : ∀ (s : Shared) (H : Hp) (C : Addr) (cl : List (Str × Addr)) (fp : List Addr), DE (X.blk s H scope (compEnvC scope cl C X.env) fp) elt E) (hs : ∀ x, foldedSetIterable iter X.env x = pure x := by intro _; rfl) (hs1 : ∀ env x, foldedSetIterable iter1 env x = pure x := by intro _ _; rfl) :
    DS X (.Assign [.Name y py] (.ListComp elt [⟨tg, iter, ifs, 0⟩, ⟨tg1, iter1, ifs1, 0⟩] scope pos) spos) (wSet i (wLc2 (own.map (·.2)) vs1 t F T t1 F1 T1 E)) := by
  refine ⟨fun B W tk => ⟨fun pins s st H Dn I ⟨m, en, S, dn, g, f, q1, q2, q3, q4⟩ => (ps_setLc2 (wi1 := lI X.K B0 F1 noX) (g := t.g X.K) (g1 := t1.g X.K) (tt := lT X.K B0 T noX) (tt1 := lT X.K B0 T1 noX) (te := lE X.K B0 E noX) hc hN hy hyl hsw (hi.go B W tk) ok hv (fun s H C cl fp => (hg s H C cl fp).go) (fun s H C cl fp => (ht s H C cl fp).go B0 noX takes_no) (fun s H C cl fp => (hi1 s H C cl fp).go B0 noX takes_no) (fun s H C cl fp => (hg1 s H C cl fp).go) (fun s H C cl fp => (ht1 s H C cl fp).go B0 noX takes_no) (fun s H C cl fp => (he s H C cl fp).go B0 noX takes_no) hs hs1).run pins s st H Dn I ?_⟩⟩
  refine lc_data2 g f fun v H' p => ?_
  obtain ⟨m', S', w, e', r', v', f'⟩ := p
  exact q1 _ _ ⟨m', S', _, e', r', (g.env.mono e').set v', f'⟩
end
section
variable {F F1 : WI} {t t1 : Tg} {T T1 : WT} {Fe : WE} {W : XQ} {en en' : Env} {S : Sto} {ka : KA} {k : KE}
instance {vs vs1 : List Nat} : Stp (wLc2 vs vs1 t F T t1 F1 T1 Fe W en S k) (wLcA2 vs vs1 t F T t1 F1 T1 Fe W en S (dlK k)) := ⟨id⟩
instance {vs vs1 : List Nat} [q : Wip en vs en'] : Stc (wLcA2 vs vs1 t F T t1 F1 T1 Fe W en S ka) (t.sl.all (fun i => decide (i ∈ vs)) = true ∧ t1.sl.all (fun i => decide (i ∈ vs1)) = true) (F W en S fun ws ok S1 => wLcT2 t T vs1 F1 t1 T1 Fe ok en' ka ws [] S1) :=
  ⟨fun hv h => ⟨fun i hi => of_decide_eq_true (List.all_eq_true.mp hv.1 i hi), fun i hi => of_decide_eq_true (List.all_eq_true.mp hv.2 i hi), by rw [q.eq]; exact h⟩⟩
end
/-- the turns by an invariant: each outer item adds f x to the list -/
theorem lc2_map {α : Type} {F1 : WI} {t t1 : Tg} {T T1 : WT} {E : WE} {vs1 : List Nat} {ok : Sto → Prop} {en : Env} {k : KA} (c : α → Val) (xs : List α) (f : α → List Val) {S : Sto} (hok : ok S)
    (step : ∀ (x : α) (acc : List Val) (l r : List α), xs = l ++ x :: r → acc = (l.map f).flatten → ∃ en', t.w (c x) en = some en' ∧ ∀ k' : KA, k' (acc ++ f x) S → T noX en' S fun b S1 => if b = true then F1 noX en' S1 fun ws1 ok1 S2 => wLcT t1 T1 E ok1 (wipeE en' vs1) k' ws1 acc S2 else k' acc S1)
    (fin : k ((xs.map f).flatten) S) : wLcT2 t T vs1 F1 t1 T1 E ok en k (xs.map c) [] S := by
  have key : ∀ (r l : List α), xs = l ++ r → wLcT2 t T vs1 F1 t1 T1 E ok en k (r.map c) ((l.map f).flatten) S := by
    intro r
    induction r with
    | nil =>
      intro l e
      rw [List.append_nil] at e
      subst e
      show wLcT2 t T vs1 F1 t1 T1 E ok en k [] _ S
      unfold wLcT2
      exact ⟨hok, fin⟩
    | cons x r ih =>
      intro l e
      rw [List.map_cons]
      unfold wLcT2
      refine ⟨hok, ?_⟩
      obtain ⟨en', e1, h1⟩ := step x _ l r e rfl
      rw [e1]
      refine h1 (fun acc' S3 => wLcT2 t T vs1 F1 t1 T1 E ok en k (r.map c) acc' S3) ?_
      have := ih (l ++ [x]) (by rw [e]; simp)
      rw [List.map_append, List.flatten_append] at this
      simpa using this
  simpa using key xs [] (by simp)
end DL

set_option Elab.async false
set_option linter.all false
set_option maxRecDepth 100000
set_option maxHeartbeats 4000000
/-! DL35: sorted of data. -/
namespace DL
open PySem PySem.Spec PyProof.Rows L2
def dle : PyData → PyData → Bool := PySem.W.dataLe false id
def rSortD (K : PySem.W.Frag) : List V → Hp → VK → Prop := fun vs H Q => ∃ (a : Addr) (xs : List V) (ds : List PyData), vs = [V.ref a] ∧ SqL K H a xs ∧ xs.length = ds.length ∧ DpAll K H xs ds ∧ PySem.W.AllAlike ds ∧ PySem.W.Sortable ds ∧ (∀ d ∈ ds, d.depth ≤ 40) ∧
  ∀ (zs : List (V × PyData)) (p : Addr), zs.Perm (xs.zip ds) → zs.map (·.2) = ds.mergeSort dle → H p = none → Q (.ref p) (upd H p (.lst (zs.map (·.1))))
theorem each_zip {K : PySem.W.Frag} {H : Hp} : ∀ {vs : List V} {us : List Value} {ds : List PyData}, Vals vs us → DpAll K H vs ds → PySem.W.EachIs (fun u (b : V × PyData) => RelV b.1 u) us (vs.zip ds)
  | _, _, _, .nil, .nil => .nil
  | _, _, _, .cons r rs, .cons _ ds => .cons r (each_zip rs ds)
theorem each_vals : ∀ {us : List Value} {zs : List (V × PyData)}, PySem.W.EachIs (fun u (b : V × PyData) => RelV b.1 u) us zs → Vals (zs.map (·.1)) us
  | _, _, .nil => .nil
  | _, _, .cons r rs => .cons r (each_vals rs)
section
variable {X : Cx} {pins : List (Addr × Obj)} {st : L2.St} {H : Hp} {s : Shared}
theorem each_reads (I : Inv X pins st H s) : ∀ {vs : List V} {us : List Value} {ds : List PyData}, Vals vs us → DpAll X.K H vs ds → PySem.W.EachIs (fun u (b : V × PyData) => ∃ as, Reads s.heap u b.2 as) us (vs.zip ds)
  | _, _, _, .nil, .nil => .nil
  | _, _, _, .cons r rs, .cons d ds => .cons (Dp.reads I _ _ _ d r) (each_reads I rs ds)
theorem dpAll_len {K : PySem.W.Frag} : ∀ {vs : List V} {ds : List PyData}, DpAll K H vs ds → vs.length = ds.length
  | _, _, .nil => rfl
  | _, _, .cons _ t => congrArg (· + 1) (dpAll_len t)
theorem zip_snd {α β : Type} : ∀ {as : List α} {bs : List β}, as.length = bs.length → (as.zip bs).map Prod.snd = bs
  | [], [], _ => rfl
  | a :: as, b :: bs, h => by rw [List.zip_cons_cons, List.map_cons, zip_snd (by simpa using h)]
theorem cr_sortD (hu : X.A.units + 64 < cLine) : CallR X (.builtin "sorted") (rSortD X.K) := by
  intro pins s st H vs us Q I r h
  obtain ⟨a, xs, ds, rfl, hs, hlen, hd, h1, h2, h3, q⟩ := h
  obtain ⟨its, rv, hl, hz⟩ := I.list hs
  rw [Vals.ref1 r]
  have es : (xs.zip ds).map Prod.snd = ds := zip_snd hlen
  have el : (xs.zip ds).length = xs.length := by rw [List.length_zip, ← hlen, Nat.min_self]
  refine PySem.W.sorted_data (enc := Prod.snd) hl.isList (each_zip rv hd) (each_reads I rv hd) (by rw [es]; exact h1) (by rw [es]; exact h2) (by rw [el]; exact hz) (fun b hb => ?_) fun out k1 k2 => ?_
  · have := h3 b.2 (by rw [← es]; exact List.mem_map.mpr ⟨b, hb, rfl⟩)
    omega
  · have hp := List.mergeSort_perm (xs.zip ds) (PySem.W.dataLe false Prod.snd)
    have em : ((xs.zip ds).mergeSort (PySem.W.dataLe false Prod.snd)).map (·.2) = ds.mergeSort dle := by
      rw [List.map_mergeSort (r := PySem.W.dataLe false Prod.snd) (s := dle) (f := Prod.snd) (fun a _ b _ => rfl), es]
    generalize (xs.zip ds).mergeSort (PySem.W.dataLe false Prod.snd) = zs at k2 hp em
    have hzl : zs.length = xs.length := hp.length_eq.trans el
    obtain ⟨ep, he'⟩ := PyProof.Rows.sortedAll_at s.heap its out.toArray
    refine ⟨.ref _, upd H (s.heap.objs.size + 1) (.lst (zs.map (·.1))), I.laid (t' := s.toks) (fun _ _ => PyProof.Rows.sortedAll_old) (Nat.le_succ _) ⟨by rw [List.length_map, hzl]; exact hz, out, ep, each_vals k2, he'⟩, rfl, q zs _ hp em (I.hok.fresh (Nat.le_succ _))⟩
end
theorem RDs.zip {K : PySem.W.Frag} {m : Ids} {H : Hp} : ∀ {vs : List V} {ds : List PyData}, RDs K m H vs ds → ∀ z ∈ vs.zip ds, RD K m H z.1 z.2
  | _, _, .nil, z, h => by simp at h
  | _, _, .cons h t, z, hz => by
    rw [List.zip_cons_cons] at hz
    rcases List.mem_cons.mp hz with e | hz
    · rw [e]; exact h
    · exact t.zip z hz
theorem rds_pairs {K : PySem.W.Frag} {m : Ids} {H : Hp} : ∀ {zs : List (V × PyData)}, (∀ z ∈ zs, RD K m H z.1 z.2) → RDs K m H (zs.map (·.1)) (zs.map (·.2))
  | [], _ => .nil
  | z :: zs, h => .cons (h z List.mem_cons_self) (rds_pairs fun y hy => h y (List.mem_cons_of_mem _ hy))
/-- may be sorted -/
structure SortOk (ds : List PyData) : Prop where
  alike : PySem.W.AllAlike ds
  kind : PySem.W.Sortable ds
  depth : ∀ d ∈ ds, d.depth ≤ 40
def vSorted : RCD := fun ws S k => match ws with
  | [w] => match lsrW S w with
    | some xs => match dats xs with
      | some ds => SortOk ds ∧ k (.d (.list (ds.mergeSort dle))) S
      | none => False
    | none => False
  | _ => False
/-- the same as a list that is changed -/
def vSortedM : RCD := fun ws S k => match ws with
  | [w] => match lsrW S w with
    | some xs => match dats xs with
      | some ds => SortOk ds ∧ k (.r S.length) (S ++ [.lst ((ds.mergeSort dle).map Val.d)])
      | none => False
    | none => False
  | _ => False
theorem lift_sorted {K : PySem.W.Frag} : LiftC K (rSortD K) vSorted := by
  intro H xs Q m S ws k r v h q
  unfold vSorted at h
  split at h
  · rename_i w
    split at h
    · rename_i ys e
      split at h
      · rename_i ds ed
        obtain ⟨o, h⟩ := h
        match xs, v with
        | [_], .cons v .nil =>
          obtain ⟨a, vs, rfl, h1, h2⟩ := lsrW_rel r v e
          have rd := dats_rel h2 ed
          refine ⟨a, vs, ds, rfl, h1, rd.length, rd.dpAll, o.alike, o.kind, o.depth, fun zs p hp em hn => ?_⟩
          refine post_lst r (em ▸ rds_pairs fun z hz => rd.zip z (hp.mem_iff.mp hz)) h q p hn
      · exact h.elim
    · exact h.elim
  · exact h.elim
theorem lift_sortedM {K : PySem.W.Frag} : LiftC K (rSortD K) vSortedM := by
  intro H xs Q m S ws k r v h q
  unfold vSortedM at h
  split at h
  · rename_i w
    split at h
    · rename_i ys e
      split at h
      · rename_i ds ed
        obtain ⟨o, h⟩ := h
        match xs, v with
        | [_], .cons v .nil =>
          obtain ⟨a, vs, rfl, h1, h2⟩ := lsrW_rel r v e
          have rd := dats_rel h2 ed
          refine ⟨a, vs, ds, rfl, h1, rd.length, rd.dpAll, o.alike, o.kind, o.depth, fun zs p hp em hn => ?_⟩
          refine post_new r (em ▸ (rds_pairs fun z hz => rd.zip z (hp.mem_iff.mp hz)).vals) h q p hn
      · exact h.elim
    · exact h.elim
  · exact h.elim
section
variable {X : Cx} {e : Expr} {es : List Expr} {G : WA} {p pos : Pos}
theorem boot_sorted : bootBuiltins "sorted" = some (.builtin "sorted") := by rfl
theorem cb_sorted (hu : X.A.units + 64 < cLine) (z : X.mg "sorted" = none) (ha : DA X (e :: es) G) (hg : Gl X "sorted" := by rfl) (he : starEach (e :: es) X.env = (false, eval e X.env) :: starEach es X.env := by rfl) (hpl : (backTo pos (starEach es X.env)).any (·.1) = false := by rfl) : DE X (.Call (.Name "sorted" p) (e :: es) [] pos) (wCB vSorted G) :=
  de_callB (cr_sortD hu) lift_sorted hg z boot_sorted ha (by decide) (by decide) he hpl
theorem cb_sortedM (hu : X.A.units + 64 < cLine) (z : X.mg "sorted" = none) (ha : DA X (e :: es) G) (hg : Gl X "sorted" := by rfl) (he : starEach (e :: es) X.env = (false, eval e X.env) :: starEach es X.env := by rfl) (hpl : (backTo pos (starEach es X.env)).any (·.1) = false := by rfl) : DE X (.Call (.Name "sorted" p) (e :: es) [] pos) (wCB vSortedM G) :=
  de_callB (cr_sortD hu) lift_sortedM hg z boot_sorted ha (by decide) (by decide) he hpl
end
/-! ### lists of whole numbers; tuples that begin with whole numbers -/
theorem sortOk_ints (ns : List Int) : SortOk (ns.map PyData.int) := by
  refine ⟨PySem.W.AllAlike.of fun a b => by simp [PySem.W.alike], PySem.W.Sortable.others fun b => ⟨(by intro z; cases z), (by intro xs z; cases z)⟩, fun d hd => ?_⟩
  obtain ⟨n, _, rfl⟩ := List.mem_map.mp hd
  simp [PyData.depth]
theorem dle_int (a b : Int) : dle (.int a) (.int b) = decide (a ≤ b) := by
  have := congrFun (congrFun (PySem.W.dataLe_int (β := Int) id) a) b
  exact this
theorem sort_ints (ns : List Int) : (ns.map PyData.int).mergeSort dle = (ns.mergeSort fun a b => decide (a ≤ b)).map PyData.int := by
  rw [List.map_mergeSort (r := fun a b => decide (a ≤ b)) (s := dle) (f := PyData.int) fun a _ b _ => (dle_int a b).symm]
section
variable {S : Sto} {k : KE} {ws : List Val} {i : Nat} {f : Ob → Sto}
instance {ns : List Int} : Stp (vSorted [.d (.list (ns.map PyData.int))] S k) (k (.d (.list ((ns.mergeSort fun a b => decide (a ≤ b)).map PyData.int))) S) := ⟨fun h => by
  unfold vSorted
  simp only [lsrW, lstW, dats_map]
  refine ⟨sortOk_ints ns, ?_⟩
  rw [sort_ints]
  exact h⟩
instance {xs : List PyData} : Stc (vSorted [.d (.list xs)] S k) (SortOk xs) (k (.d (.list (xs.mergeSort dle))) S) := ⟨fun c h => by
  unfold vSorted
  simp only [lsrW, lstW, dats_map]
  exact ⟨c, h⟩⟩
instance {xs : List PyData} [p : StG S i (.lst ws)] [q : Dat ws xs] : Stc (vSorted [.r i] S k) (SortOk xs) (k (.d (.list (xs.mergeSort dle))) S) := ⟨fun c h => by
  unfold vSorted
  simp only [lsrW, lstW, p.eq, q.eq]
  exact ⟨c, h⟩⟩
end
end DL

set_option Elab.async false
set_option linter.all false
set_option maxRecDepth 100000
set_option maxHeartbeats 4000000
/-! DL36: sorted by a lambda: a tuple's second number less its first. -/
namespace DL
open PySem PySem.Spec PyProof.Rows L2
open LamX (CodeO TabS TabB)
/-! ### a lambda is made -/
/-- the heap behind it: as it was, or with one more code object in the table -/
inductive LamH (H : Hp) (P : Addr) (q : Str) : Hp → Prop
  | old : LamH H P q H
  | new {ps more : Array Value} {c' : Addr} : H P = some (.tbl ps) → H c' = none → LamH H P q (upd (upd H P (.tbl (ps ++ more))) c' (CodeO c' q))
section
variable {X : Cx} {pins : List (Addr × Obj)} {st : L2.St} {H : Hp} {s : Shared}
theorem lam_mk {q : Str} {c P : Addr} {params : Arguments} {body : Expr} {scope : Scope} {pos : Pos} {E : Value → Shared → Prop} {Q : Value → Shared → Prop} (I : Inv X pins st H s) (tb : TabB X.base X.mg c P) (hc : X.env.code = .ref c) (hq : X.env.qual ++ "<lambda>" = q)
    (tab : TabS H P q) (hd : defaultsOf params X.env = ([], [])) (hf : ∀ y ∈ scope.names, y.2 = .free → ∃ c, X.env.cells.lookup y.1 = some c)
    (k : ∀ (f c' : Addr) (pm ctv : Value) (H1 : Hp) (s1 : Shared), Inv X pins st H1 s1 → LamH H P q H1 → TabS H1 P q → H1 c' = some (CodeO c' q) → s1.heap.get? f = some (PySem.W.kla_obj "<lambda>" q params body scope (cloFrom X.env.cells scope.names []) pm c' ctv) → Q (.ref f) s1) :
    wpAny (model X.prog X.w) X.A (eval (.Lambda params body scope pos) X.env) Q E s := by
  subst hq
  obtain ⟨ps, hP, trip, told⟩ := tab
  have hPs : s.heap.get? P = some { cls := .none, data := .fields ps } := I.hok P _ hP
  have bs : s.heap.BuiltinsAt X.mg P := tb.bm.keeps I.bk
  refine PySem.W.kla_eval hd ?_
  rcases ef : codeAmong pos ps.toList with _ | cv
  · refine PySem.W.kla_makeFunction (c := c) (P := P) (mg := X.mg) (ps := ps) (closure_ok hf) I.ok.glob (I.mod.glob.keeps I.bk) hc (tb.code.keeps I.bk) hPs trip ef tb.gP bs ?_
    rintro c' ctv h' tk ext low high ⟨c2, oc, vs, t, e2, hoc, hdt, hvs⟩ at_
    injection e2 with e2
    subst e2
    have cN : H c' = none := I.hok.fresh low
    have ne : P ≠ c' := ne_of_none hP cN
    have I1 := LamX.inv_table (q := X.env.qual ++ "<lambda>") (t' := tk) (more := #[rawInt pos.line, rawInt pos.col, .ref c']) (h' := h'.push (PySem.W.kla_obj "<lambda>" (X.env.qual ++ "<lambda>") params body scope (cloFrom X.env.cells scope.names []) ((X.mg "__name__").getD .none) c' ctv)) I hP
      (fun a o z e => Heap.get?_push_of_some _ (ext a o z e)) (Heap.get?_push_of_some _ at_) low ⟨oc, vs, t, Heap.get?_push_of_some _ hoc, hdt, hvs⟩
    refine k _ _ _ _ _ _ I1 (.new hP cN) ⟨_, by rw [upd_ne ne, upd_same], ?_, fun p2 cv2 h2 => ?_⟩ upd_same (Heap.get?_push_size _ rfl)
    · rw [show (ps ++ #[rawInt pos.line, rawInt pos.col, .ref c']).toList = ps.toList ++ [rawInt pos.line, rawInt pos.col, .ref c'] by simp]
      exact PySem.TriplesOk_snoc _ _ _ _ trip
    · rw [show (ps ++ #[rawInt pos.line, rawInt pos.col, .ref c']).toList = ps.toList ++ [rawInt pos.line, rawInt pos.col, .ref c'] by simp] at h2
      rcases LamX.among_app _ trip h2 with z | z
      · obtain ⟨c0, g1, g2⟩ := told p2 cv2 z
        have n1 : c0 ≠ c' := ne_of_none g2 cN
        have n2 : c0 ≠ P := fun z => by
          rw [z, hP] at g2
          exact LamX.codeO_ne _ (Option.some.inj g2).symm
        exact ⟨c0, g1, by rw [upd_ne n1, upd_ne n2]; exact g2⟩
      · exact ⟨c', z, upd_same⟩
  · obtain ⟨c', g1, g2⟩ := told pos cv ef
    subst g1
    refine PySem.W.kla_makeFunctionHit (c := c) (P := P) (mg := X.mg) (ps := ps) (closure_ok hf) I.ok.glob (I.mod.glob.keeps I.bk) hc (tb.code.keeps I.bk) hPs trip ef bs ?_
    intro ctv h' tk ext low
    exact k _ c' _ ctv H _ (I.kept fun a o e => Heap.get?_push_of_some _ (ext a o e)) .old ⟨ps, hP, trip, told⟩ g2 (Heap.get?_push_size _ rfl)
end
section
variable {K : PySem.W.Frag} {m : Ids} {H H1 : Hp} {S : Sto} {P : Addr} {q : Str}
theorem LamH.ext (l : LamH H P q H1) : Ext m H m H1 := by
  cases l with
  | old => exact Ext.refl
  | new hP hc =>
    refine ⟨fun a o h n => ⟨fun nt => ?_, n⟩, fun _ _ h => .inl h, ⟨fun _ h => h, fun _ h => .inl h⟩, fun a o h => ?_⟩
    · rw [upd_ne (ne_of_none h hc), upd_ne fun z => nt _ (Option.some.inj (h.symm.trans (by rw [z]; exact hP)))]
      exact h
    · rw [upd_ne (ne_of_none h hc)]
      exact upd_th a o h
theorem LamH.rel (l : LamH H P q H1) (r : Rel K m H S) (hm : (P, q) ∈ TK K) (tab : TabS H1 P q) : Rel K m H1 S := by
  have E : Ext m H m H1 := l.ext
  cases l with
  | old => exact r
  | @new ps more c' hP hc =>
    refine ⟨r.len, r.inj, fun i x o e1 e2 => (r.ob i x o e1 e2).keep E fun a ea u nt hu => ?_, r.dd, fun i a e => ?_, fun a ha => ?_, ⟨fun p hp => ?_, r.tb.fr, r.tb.one⟩⟩
    · rw [upd_ne (ne_of_none hu hc), upd_ne fun z => nt _ (Option.some.inj (hu.symm.trans (by rw [z]; exact hP)))]
      exact hu
    · obtain ⟨o, h⟩ := r.tr i a e
      exact E.th a o h
    · obtain ⟨⟨o, h⟩, n⟩ := r.out a ha
      exact ⟨E.th a o h, n⟩
    · by_cases e : p.1 = P
      · have e2 := r.tb.one p hp (P, q) hm e
        rw [e, e2]
        exact tab
      · obtain ⟨ps', h1, h2, h3⟩ := r.tb.at_ p hp
        refine ⟨ps', by rw [upd_ne (ne_of_none h1 hc), upd_ne e]; exact h1, h2, fun pos cv h4 => ?_⟩
        obtain ⟨c0, g1, g2⟩ := h3 pos cv h4
        exact ⟨c0, g1, by
          rw [upd_ne (ne_of_none g2 hc), upd_ne fun z => LamX.codeO_ne ps (Option.some.inj (g2.symm.trans (by rw [z]; exact hP)))]
          exact g2⟩
end
/-! ### its call: a key -/
abbrev segBody (x : Str) (j1 j2 : Nat) (p1 p2 p3 p4 p5 p6 p7 : Pos) : Expr := .BinOp (.Subscript (.Name x p1) (.Constant (.int 1) j1 p2) p3) .Sub (.Subscript (.Name x p4) (.Constant (.int 0) j2 p5) p6) p7
section
variable {prog : Program} {w : World} {A : Around} {s : Shared} {f c' t : Addr} {q x : Str} {params : Arguments} {scope : Scope} {pm ctv : Value} {items : Array Value} {a b : Int} {ta tb : Tok} {j1 j2 : Nat} {p1 p2 p3 p4 p5 p6 p7 : Pos}
theorem seg_turn (hd : A.depth < recursionLimit) (ho : s.heap.get? f = some (PySem.W.kla_obj "<lambda>" q params (segBody x j1 j2 p1 p2 p3 p4 p5 p6 p7) scope [] pm c' ctv)) (hc : s.heap.CodeRec (.ref c') q) (lim : s.heap.NoLimit)
    (hb : ∀ v, bindArgs (PySem.W.kla_fn "<lambda>" q params (segBody x j1 j2 p1 p2 p3 p4 p5 p6 p7) scope [] pm (.ref c') ctv) ⟨[v], []⟩ = pure [(x, v)]) (k1 : scope.kind = .function) (k2 : scope.isCoroutine = false) (k3 : scope.isGenerator = false)
    (k4 : ∀ y ∈ scope.names, y.2 ≠ .cell) (k5 : scope.names.lookup x = some .local) (hx : (x == ("__debug__" : Str)) = false)
    (ht : IsTup s.heap t items) (h0 : items[0]? = some (.int a ta)) (h1 : items[1]? = some (.int b tb)) (hz : items.size < 2 ^ 63) :
    wpAny (model prog w) A (call (.ref f) [.ref t]) (PySem.W.KeyPure (.int (b - a)) s) (fun _ _ => False) s := by
  refine wpAny_call (codeAny_mono (R := fun r s' => ∃ u, r = .ok (.ret u) ∧ PySem.W.KeyPure (.int (b - a)) s u s') ?_ fun r s' h => ?_)
  · refine PySem.W.kla_callFunE hd ho rfl k2 k3 rfl hc ?_
    rw [hb]
    refine wpAny_pure (wpAny_newFunctionEnv k4 (fun y hy => by rw [List.mem_singleton.mp hy]; exact k5) (fun h' ns sb => ⟨lim.fresh _ sb, ?_⟩) k1)
    have kp : ∀ d o, s.heap.get? d = some o → h'.get? d = some o := fun d o e => sb.extBut d o (Nat.ne_of_lt (Heap.lt_size e)) (Heap.get?_push_of_some _ e)
    have tup : IsTup h' t items := ht.keeps kp
    refine PySem.W.kla_codeExpr (wpAny_BinOp ?_)
    have two : 2 ≤ items.size := by
      rcases Nat.lt_or_ge 1 items.size with h | h
      · exact h
      · rw [Array.getElem?_eq_none h] at h1; cases h1
    have nm : ∀ (tk : Tok) (pos : Pos) (Q : Value → Shared → Prop) (E : Value → Shared → Prop), Q (.ref t) { s with heap := h', toks := tk } → wpAny (model prog w) (A.deeper (newEnv scope s.heap.objs.size mainGlobals [] (q ++ ".<locals>.") (some f) (.ref c') none builtinsNs)) (eval (.Name x pos) (newEnv scope s.heap.objs.size mainGlobals [] (q ++ ".<locals>.") (some f) (.ref c') none builtinsNs)) Q E { s with heap := h', toks := tk } := fun tk pos Q E hQ =>
      wpAny_Name (wpAny_loadName_local (m := fun y => [(x, Value.ref t)].reverse.lookup y) k1 k5 ns (by simp) hQ) hx
    have item : ∀ (n : Nat) (z : Int) (tz : Tok) (tk : Tok) (j : Nat) (pa pb pc : Pos) (Q : Value → Shared → Prop) (E : Value → Shared → Prop), n < 2 → items[n]? = some (.int z tz) → Q (.int z tz) { s with heap := h', toks := tk + 1 } →
        wpAny (model prog w) (A.deeper (newEnv scope s.heap.objs.size mainGlobals [] (q ++ ".<locals>.") (some f) (.ref c') none builtinsNs)) (eval (.Subscript (.Name x pa) (.Constant (.int (n : Nat)) j pb) pc) (newEnv scope s.heap.objs.size mainGlobals [] (q ++ ".<locals>.") (some f) (.ref c') none builtinsNs)) Q E { s with heap := h', toks := tk } := fun n z tz tk j pa pb pc Q E hn hi hQ =>
      Subscript_ (nm tk pa _ _ (wpAny_Constant_int (subscriptTail_builtinR (x := .int z tz) (T := "tuple") tup.typeIs slot_tuple_getitem.lookup
        (getItem_tuple (j := n) (Q := fun r s' => r = .int z tz ∧ Q r s') tup (by omega) (by omega) (seqIndex_of (by omega) (by omega)) hi ⟨rfl, hQ⟩))))
    refine item 1 b tb _ j1 p1 p2 p3 _ _ (by decide) h1 (item 0 a ta _ j2 p4 p5 p6 _ _ (by decide) h0 (sub_int ⟨_, rfl, ?_⟩))
    exact ⟨h', _, rfl, kp, Reads.int _ _⟩
  · obtain ⟨u, rfl, h⟩ := h
    exact h
end
/-! ### sorted(e, key=lambda x: x[1] - x[0]) -/
def segK : PyData → Option Int
  | .tuple (.int a :: .int b :: _) => some (b - a)
  | _ => none
def segV (d : PyData) : Int := (segK d).getD 0
def segLe (d e : PyData) : Bool := decide (segV d ≤ segV e)
def vSortSeg (w : Val) (S : Sto) (k : KE) : Prop := match lsrW S w with
  | some xs => match dats xs with
    | some ds => (∀ d ∈ ds, (segK d).isSome = true) ∧ k (.d (.list (ds.mergeSort segLe))) S
    | none => False
  | none => False
def wSortSeg (F : WE) : WE := fun W en S k => F W en S fun w S1 => vSortSeg w S1 k
/-- the code object of a def that makes functions, its table -/
structure LamC (K : PySem.W.Frag) (mg : Str → Option Value) (base : Heap) (x : Str) (c : Addr) : Prop where
  ex : ∃ P, TabB base mg c P ∧ (P, x ++ ".<locals>.<lambda>") ∈ TK K
theorem segK_eq {d : PyData} (h : (segK d).isSome = true) : ∃ a b r, d = .tuple (.int a :: .int b :: r) := by
  unfold segK at h
  split at h
  · exact ⟨_, _, _, rfl⟩
  · cases h
theorem each_rd {K : PySem.W.Frag} {m : Ids} {H : Hp} : ∀ {vs : List V} {us : List Value} {ds : List PyData}, Vals vs us → RDs K m H vs ds → PySem.W.EachIs (fun u (b : V × PyData) => RelV b.1 u ∧ RD K m H b.1 b.2) us (vs.zip ds)
  | _, _, _, .nil, .nil => .nil
  | _, _, _, .cons r rs, .cons d ds => .cons ⟨r, d⟩ (each_rd rs ds)
theorem each_vals2 {K : PySem.W.Frag} {m : Ids} {H : Hp} : ∀ {us : List Value} {zs : List (V × PyData)}, PySem.W.EachIs (fun u (b : V × PyData) => RelV b.1 u ∧ RD K m H b.1 b.2) us zs → Vals (zs.map (·.1)) us ∧ RDs K m H (zs.map (·.1)) (zs.map (·.2))
  | _, _, .nil => ⟨.nil, .nil⟩
  | _, _, .cons r rs => ⟨.cons r.1 (each_vals2 rs).1, .cons r.2 (each_vals2 rs).2⟩
theorem seg_tup {X : Cx} {pins : List (Addr × Obj)} {st : L2.St} {H : Hp} {s : Shared} {m : Ids} {v : V} {u : Value} {i j : Int} {r : List PyData} (I : Inv X pins st H s) (rd : RD X.K m H v (.tuple (.int i :: .int j :: r))) (ru : RelV v u) :
    ∃ (t : Addr) (items : Array Value) (t1 t2 : Tok), u = .ref t ∧ IsTup s.heap t items ∧ items[0]? = some (.int i t1) ∧ items[1]? = some (.int j t2) ∧ items.size < 2 ^ 63 := by
  obtain ⟨ta, tvs, rfl, ht, hts⟩ := RD.tup_inv rd
  obtain rfl : u = Value.ref ta := ru
  cases hts with
  | cons a1 hts =>
    cases hts with
    | cons a2 hts =>
      cases a1
      cases a2
      obtain ⟨its, trv, tis, tz⟩ := I.tuple ht
      cases trv with
      | cons b1 trv =>
        cases trv with
        | cons b2 trv =>
          obtain ⟨t1, rfl⟩ := b1
          obtain ⟨t2, rfl⟩ := b2
          refine ⟨ta, _, t1, t2, rfl, tis, by simp, by simp, ?_⟩
          have tl := trv.length
          have l63 := line63
          simp only [List.size_toArray, List.length_cons] at tz ⊢
          omega
section
variable {X : Cx} {e : Expr} {F : WE} {p pos kpos lpos p1 p2 p3 p4 p5 p6 p7 : Pos} {params : Arguments} {scope : Scope} {x fn : Str} {c : Addr} {j1 j2 : Nat} {k : Nat}
theorem de_sortSeg (z : X.mg "sorted" = none) (hr : Room k X.A) (he : DE X e F) (hcd : X.env.code = .ref c) (lc : LamC X.K X.mg X.base fn c) (hq : X.env.qual ++ "<lambda>" = fn ++ ".<locals>.<lambda>") (hdef : defaultsOf params X.env = ([], []))
    (hb : ∀ (q : Str) (pm cv ctv v : Value), bindArgs (PySem.W.kla_fn "<lambda>" q params (segBody x j1 j2 p1 p2 p3 p4 p5 p6 p7) scope [] pm cv ctv) ⟨[v], []⟩ = pure [(x, v)]) (k1 : scope.kind = .function) (k2 : scope.isCoroutine = false) (k3 : scope.isGenerator = false)
    (k4 : ∀ y ∈ scope.names, y.2 ≠ .cell) (k5 : scope.names.lookup x = some .local) (k6 : ∀ y ∈ scope.names, y.2 ≠ .free) (k7 : ∀ cells, cloFrom cells scope.names [] = []) (hx : (x == ("__debug__" : Str)) = false) (hg : Gl X "sorted" := by rfl)
    (he1 : backTo pos (starEach [e] X.env) = [(false, eval e X.env)] := by rfl) :
    DE X (.Call (.Name "sorted" p) [e] [⟨some "key", .Lambda params (segBody x j1 j2 p1 p2 p3 p4 p5 p6 p7) scope lpos, kpos⟩] pos) (wSortSeg F) := by
  obtain ⟨P, tb, hP⟩ := lc.ex
  refine ⟨fun B W tk => ⟨fun pins s st H Q I h => ?_⟩⟩
  obtain ⟨m, en, S, k0, g, f, q⟩ := h
  refine wpAny_Call_Name_kw (ld_blt I hg z boot_sorted ?_ (by decide) (by decide))
  refine PyProof.Rows.callWith_kw ?_ (by rw [he1]; rfl) (by rw [he1]; rfl) (by rfl) (by rfl)
  rw [he1]
  refine Calls.spliced_cons (thn ((he.go B W tk).run pins s st H (fun v H1 => Post X.K m H (fun w S1 => vSortSeg w S1 k0) v H1) I ⟨m, en, S, _, g, f, fun v H1 p1 => p1⟩) fun u s1 q1 => Calls.spliced_nil ?_)
  obtain ⟨v, H1, I1, r1, m1, S1, w1, e1, R1, v1, h1⟩ := q1
  unfold vSortSeg at h1
  split at h1
  · rename_i xs ex
    split at h1
    · rename_i ds ed
      obtain ⟨hk, h1⟩ := h1
      obtain ⟨a, vs, rfl, hs, hv⟩ := lsrW_rel R1 v1 ex
      have rd := dats_rel hv ed
      obtain rfl : u = Value.ref a := r1
      show wpAny _ _ (evalAll ((do let v ← eval (.Lambda params (segBody x j1 j2 p1 p2 p3 p4 p5 p6 p7) scope lpos) X.env; standAt pos; pure v) :: [])) _ _ s1
      have hfree : ∀ y ∈ scope.names, y.2 = .free → ∃ c, X.env.cells.lookup y.1 = some c := fun y hy ey => absurd ey (k6 y hy)
      refine wpAny_evalAll_cons (wpAny_bind (lam_mk I1 tb hcd hq (R1.tb.at_ _ hP) hdef hfree fun fa c' pm ctv H2 s2 I2 lh tab2 hco hfa => wpAny_bind (wpAny_standAt (wpAny_pure (wpAny_evalAll_nil ?_)))))
      show wpAny _ _ (call (.builtin "sorted") [.ref a] [(Str.ofString "key", .ref fa)]) _ _ s2
      rw [k7] at hfa
      have E2 : Ext m1 H1 m1 H2 := lh.ext
      have R2 := lh.rel R1 hP tab2
      have rd2 := RDs.mono E2 rd
      have hs2 : SqL X.K H2 a vs := by
        rcases hs with hs | hs
        · rcases hs with hs | ⟨o, hs⟩
          · cases lh with
            | old => exact .inl (.inl hs)
            | new hP' hc' => exact .inl (.inl (by rw [upd_ne (ne_of_none hs hc'), upd_ne fun z => by rw [z, hP'] at hs; cases hs]; exact hs))
          · cases lh with
            | old => exact .inl (.inr ⟨o, hs⟩)
            | new hP' hc' => exact .inl (.inr ⟨o, by rw [upd_ne (ne_of_none hs hc'), upd_ne fun z => by rw [z, hP'] at hs; cases hs]; exact hs⟩)
        · exact .inr hs
      obtain ⟨its, rv, hl, hz⟩ := I2.list hs2
      have hlen := rd2.length
      have es : (vs.zip ds).map Prod.snd = ds := zip_snd hlen
      have el : (vs.zip ds).length = vs.length := by rw [List.length_zip, ← hlen, Nat.min_self]
      obtain ⟨⟨oc, cvs, ct, hoc, hdc, hvc⟩, _, _⟩ := I2.hok c' _ hco
      have hu' : ∀ b ∈ vs.zip ds, X.A.units + 2 + (PyData.int (segV b.2)).depth < cLine := fun b _ => by
        have := hr.units
        rw [PyData.depth]
        omega
      have hz' : (vs.zip ds).length ≤ sizeLine := by rw [el]; exact hz
      have turn : ∀ (u : Value) (b : V × PyData), (RelV b.1 u ∧ RD X.K m1 H2 b.1 b.2) → b ∈ vs.zip ds → ∀ (h : Heap) (tk' : Nat), (∀ b o, s2.heap.get? b = some o → h.get? b = some o) →
          wpAny (model X.prog X.w) X.A.in1.in1 (call (.ref fa) [u]) (PySem.W.KeyPure (.int (segV b.2)) { s2 with heap := h, toks := tk' }) (fun _ _ => False) { s2 with heap := h, toks := tk' } := by
        rintro u ⟨v, d⟩ ⟨ru, rdv⟩ hmem h tk' kp
        have hd : d ∈ ds := (List.of_mem_zip hmem).2
        obtain ⟨i, j, r, rfl⟩ := segK_eq (hk d hd)
        obtain ⟨ta, items, t1, t2, rfl, ti, i0, i1, iz⟩ := seg_tup I2 rdv ru
        have ev : segV (.tuple (.int i :: .int j :: r)) = j - i := rfl
        have hdep : X.A.in1.in1.depth < recursionLimit := hr.depth
        rw [show segV (v, PyData.tuple (.int i :: .int j :: r)).2 = j - i from ev]
        exact seg_turn (A := X.A.in1.in1) (s := { s2 with heap := h, toks := tk' }) hdep (kp _ _ hfa) ⟨c', oc, cvs, ct, rfl, kp _ _ hoc, hdc, hvc⟩ (I2.nolimit.keeps kp) (hb _ _ _ _) k1 k2 k3 k4 k5 hx (ti.keeps kp) i0 i1 iz
      have al : PySem.W.AllAlike ((vs.zip ds).map fun b : V × PyData => PyData.int (segV b.2)) := PySem.W.AllAlike.of fun b b' => by simp [PySem.W.alike]
      have so : PySem.W.Sortable ((vs.zip ds).map fun b : V × PyData => PyData.int (segV b.2)) := PySem.W.Sortable.others fun b => ⟨(by intro z; cases z), (by intro xs z; cases z)⟩
      have key := each_rd rv rd2
      refine PySem.W.sorted_key_data (b := false) (f := .ref fa) (R := fun u (b : V × PyData) => RelV b.1 u ∧ RD X.K m1 H2 b.1 b.2) (fun b : V × PyData => .int (segV b.2)) hl.isList key al so hz' hu' (PyProof.Rows.ksk_s1 _ _) (fun _ => PyProof.Rows.ksk_l1 _ _) (fun _ => rfl) turn ?_
      intro out cc h' tk' kp fr at_ ol each
      have hp := List.mergeSort_perm (vs.zip ds) (PySem.W.dataLe false fun b : V × PyData => .int (segV b.2))
      have em : ((vs.zip ds).mergeSort (PySem.W.dataLe false fun b : V × PyData => .int (segV b.2))).map (·.2) = ds.mergeSort segLe := by
        rw [List.map_mergeSort (r := PySem.W.dataLe false fun b : V × PyData => .int (segV b.2)) (s := segLe) (f := Prod.snd) (fun a _ b _ => by rw [PySem.W.dataLe_int]; rfl), es]
      generalize (vs.zip ds).mergeSort (PySem.W.dataLe false fun b : V × PyData => .int (segV b.2)) = zs at each hp em
      have hzl : zs.length = vs.length := hp.length_eq.trans el
      obtain ⟨vz, rz⟩ := each_vals2 each
      rw [em] at rz
      have hn : H2 (s2.heap.objs.size + 1) = none := I2.hok.fresh (Nat.le_succ _)
      exact ⟨.ref _, upd H2 (s2.heap.objs.size + 1) (.lst (zs.map (·.1))), I2.laid (t' := tk') kp (Nat.le_succ _) ⟨by rw [List.length_map, hzl]; exact hz, out, cc, vz, at_⟩, rfl, post_lst (k := k0) R2 rz h1 (fun v' H' p' => q v' H' (p'.tr (e1.trans E2))) _ hn⟩
    · exact h1.elim
  · exact h1.elim
end
section
variable {S : Sto} {k : KE} {W : XQ} {en : Env} {F : WE} {ws : List Val} {i : Nat} {xs : List PyData}
instance : Stp (wSortSeg F W en S k) (F W en S fun w S1 => vSortSeg w S1 k) := ⟨id⟩
instance : Stc (vSortSeg (.d (.list xs)) S k) (∀ d ∈ xs, (segK d).isSome = true) (k (.d (.list (xs.mergeSort segLe))) S) := ⟨fun c h => by
  unfold vSortSeg
  simp only [lsrW, lstW, dats_map]
  exact ⟨c, h⟩⟩
end
/-! ### a def that makes functions -/
theorem _root_.L2.Fun.okXC {P : Program} {w : World} {K : PySem.W.Frag} {mg : Str → Option Value} {base : Heap} {x qual : Str} {st : Stmt} {f : Addr} {fd : FuncData} {N ps : List Str} {k : Nat} {sp : Sp} (F : L2.Fun K x qual st f fd) (S : FnScope N ps (defScope st)) (len : ∀ vs H Q E, sp vs H Q E → vs.length = ps.length)
    (body : ∀ (cdv : Value), PySem.W.codeIn K cdv qual = true → ∀ (A : Around) (outer : List PySem.Env) (s : Shared) (H : Hp) (vs : List V) (Q : VK) (E : XK), Room k (A.deeper (envOfC qual (defScope st) s.heap.objs.size f cdv)) → sp vs H Q E →
      ∃ t, PSs (cxOf (L2.CX P w) P w K mg base N qual (defScope st) f cdv A outer s H E) (defBody st) t ∧ t { nx := fun _ H' => Q .non H', rt := Q } (L2.start N vs) H) : FnOk P w K mg base (L2.CX P w) (k + 1) f fd ps sp := by
  obtain ⟨_, _, _, _, _, _, cdv, _, _, rfl, lk, cd⟩ := F.ex
  exact fn_of lk cd S len fun A outer s H vs Q E => body cdv cd A outer s H vs Q E
end DL

set_option Elab.async false
set_option linter.all false
set_option maxRecDepth 100000
set_option maxHeartbeats 4000000
/-! DL37: a def that makes functions; the law's end with tables of code. -/
namespace DL
open PySem PySem.Spec PyProof.Rows L2
open LamX (CodeO TabS TabB)
section
variable {P : Program} {w : World} {K : PySem.W.Frag} {mg : Str → Option Value} {base : Heap}
/-- the tables of a base -/
abbrev Tbs (K : PySem.W.Frag) (mg : Str → Option Value) (base : Heap) : Prop := ∀ t ∈ TC K, TabB base mg t.1 t.2.1
theorem lookup_mem2 {a : Addr} {o : Obj} : ∀ {l : List (Addr × Obj)}, l.lookup a = some o → (a, o) ∈ l
  | [], h => by cases h
  | (b, u) :: r, h => by
    rw [List.lookup_cons] at h
    by_cases e : a = b
    · subst e
      simp at h
      subst h
      exact List.mem_cons_self
    · rw [show (a == b) = false by simpa using e] at h
      exact List.mem_cons_of_mem _ (lookup_mem2 h)
theorem lamC_of {x : Str} {cdv : Value} (hn : x ∈ lamNames) (tb : Tbs K mg base) (h : PySem.W.codeIn K cdv x = true) : ∃ c, cdv = .ref c ∧ LamC K mg base x c := by
  unfold PySem.W.codeIn at h
  split at h
  · rename_i c
    split at h
    · rename_i oc od vs osl lk
      split at h
      · rename_i v n t r ev
        have en : n = x := beq_iff_eq.mp h
        subst en
        have ht : tabOf (c, ⟨oc, od, .fields vs, osl⟩) = some (c, refAddr (vs.getD 11 .none), n ++ ".<locals>.<lambda>") := by
          unfold tabOf
          simp only [ev]
          rw [if_pos hn]
        have hm := List.mem_filterMap.mpr ⟨_, lookup_mem2 lk, ht⟩
        exact ⟨c, rfl, ⟨_, tb _ hm, List.mem_map.mpr ⟨_, hm, rfl⟩⟩⟩
      · cases h
    · cases h
  · cases h
def BodyC (P : Program) (w : World) (K : PySem.W.Frag) (mg : Str → Option Value) (base : Heap) (k : Nat) (x : Str) (st : Stmt) (N : List Str) (G : WS) : Prop :=
  ∀ (f c : Addr) (A : Around) (outer : List PySem.Env) (s : Shared) (H : Hp) (E : XK), LamC K mg base x c → Room k (A.deeper (envOfC x (defScope st) s.heap.objs.size f (.ref c))) → DSs (DX P w K mg base N x st f (.ref c) A outer s H E) (defBody st) G
theorem fd_ofC {x : Str} {st : Stmt} {f : Addr} {fd : FuncData} {N ps : List Str} {k : Nat} {sp : Spec} {G : WS} (F : L2.Fun K x x st f fd) (Sc : FnScope N ps (defScope st)) (hn : ps.length = sp.n) (hx : x ∈ lamNames) (tb : Tbs K mg base)
    (body : BodyC P w K mg base k x st N G) (sem : Keeps N sp G) : FnOk P w K mg base (L2.CX P w) (k + 1) f fd ps (liftSp K mg sp) := by
  refine F.okXC Sc (fun vs H Q E h => h.1.trans hn.symm) fun cdv hcd A outer s H vs Q E hr h => ?_
  obtain ⟨c, rfl, lc⟩ := lamC_of hx tb hcd
  obtain ⟨hl, m, ws, So, g, r, v, hp, hQ, hE⟩ := h
  have hws : ws.length = sp.n := v.length.symm.trans hl
  refine ⟨_, (body f c A outer s H E lc hr).go (m, H) (endX sp g So.length) ?_, m, startE N ws, So, _, ⟨Ext.refl, r, startE_rel v⟩, sem g ws So hws hp, fun st' H' p => ?_, fun v' H' p => ?_, fun st' H' p => ?_, fun st' H' p => ?_⟩
  · refine (takes_of (E := E) rfl rfl rfl rfl).imp fun cls d st' H' hx => ?_
    obtain ⟨m', en, S', x, e', r', g', x', p1, p2⟩ := hx
    refine hE cls d H' ⟨⟨m'.l.take So.length, m'.o⟩, S'.take So.length, x, trim_ext e' (by rw [r.len]; exact Nat.le_refl _), trim_rel r' p1, ?_, p2⟩
    obtain ⟨C, dd, v, a1, a2, a3, a4, a5, a6, a7⟩ := x'
    refine ⟨C, dd, v, a1, a2, a3, a4, ?_, ?_, a7⟩
    exact ⟨fun z => a5.1 (List.mem_of_mem_take z), a5.2⟩
    exact RD.fr (m1 := ⟨m'.l.take So.length, m'.o⟩) (fun a o _ f => ⟨fun z => f.1 (List.mem_of_mem_take z), f.2⟩) a6
  · obtain ⟨m', S', en', e', r', g', p1, p2⟩ := p
    exact hQ _ _ ⟨⟨m'.l.take (So.length + sp.x), m'.o⟩, S'.take (So.length + sp.x), _, trim_ext e' (by rw [r.len]; exact Nat.le_add_right _ _), trim_rel r' p1.1, .d .non, p2⟩
  · obtain ⟨m', S', w', e', r', v', p1, p2⟩ := p
    exact hQ _ _ ⟨⟨m'.l.take (So.length + sp.x), m'.o⟩, S'.take (So.length + sp.x), _, trim_ext e' (by rw [r.len]; exact Nat.le_add_right _ _), trim_rel r' p1.1, trim_rv v' p1.2, p2⟩
  · obtain ⟨_, _, _, _, _, _, z⟩ := p
    exact z.elim
  · obtain ⟨_, _, _, _, _, _, z⟩ := p
    exact z.elim
theorem own_ofC {x : Str} {st : Stmt} {N ps : List Str} {k : Nat} {sp : Spec} {G : WS} (F : Dfn K mg x st ps) (Sc : FnScope N ps (defScope st)) (hn : ps.length = sp.n) (hx : x ∈ lamNames) (tb : Tbs K mg base) (body : BodyC P w K mg base k x st N G) (sem : Keeps N sp G) : Own P w K mg base (k + 1) x sp := by
  obtain ⟨f, fd, h1, h2, h3⟩ := F.ex
  exact ⟨f, fd, ps, fd_ofC h1 Sc hn hx tb body sem, h2, h1.kp, h3⟩
end
/-! ### the law itself -/
def scr63 (ns : List Int) : Val := .s (ns.map PyData.int)
/-- a law's promise -/
abbrev spLaw (n : Nat) : Spec := ⟨1, List Int, fun g ws S => ws = [scr63 g] ∧ S = [] ∧ g.length ≤ n, fun _ w _ => w = .d (.bool true), fun _ _ _ => False, 0⟩
def spTop (n : Nat) (K : PySem.W.Frag) : L2.Sp := fun vs H Q _ => TbOk K ⟨[], []⟩ H ∧ ∃ (a : Addr) (ns : List Int), vs = [.ref a] ∧ SqL K H a (ns.map V.int) ∧ ns.length ≤ n ∧ ∀ v H', v = .bl true → Q v H'
theorem rds_ints {K : PySem.W.Frag} {m : Ids} {H : Hp} : ∀ ns : List Int, RDs K m H (ns.map V.int) (ns.map PyData.int)
  | [] => .nil
  | n :: ns => .cons (.int n) (rds_ints ns)
theorem top_sp {n : Nat} {K : PySem.W.Frag} {mg : Str → Option Value} {vs : List V} {H : Hp} {Q : VK} {E : XK} (h : spTop n K vs H Q E) : liftSp K mg (spLaw n) vs H Q E := by
  obtain ⟨tb, a, ns, rfl, hS, hl, q⟩ := h
  refine ⟨rfl, ⟨[], []⟩, [scr63 ns], [], ns, ⟨rfl, fun i j a e => by simp at e, fun i x o e => by simp at e, fun i e => by simp at e, fun i a e => by simp at e, fun a h => (by cases h), tb⟩, .cons (.s ?_ (rds_ints ns)) .nil, ⟨rfl, rfl, hl⟩, fun v H' p => ?_, fun cls d H' p => ?_⟩
  · rcases hS with h | h
    · exact .inl ⟨h, ⟨by simp, by simp⟩⟩
    · exact .inr (.inr h)
  · obtain ⟨m', S', w', _, _, v', e⟩ := p
    have e : w' = .d (.bool true) := e
    subst e
    exact q v H' (bool_inv v')
  · obtain ⟨_, _, _, _, _, _, e⟩ := p
    exact e.elim
/-- what is to be seen of the tables at the head -/
def tcB (K : PySem.W.Frag) (ts : List Addr) : Bool := (TC K).all fun t => decide (t.2.1 ∈ ts) && (K.lookup t.2.1).isNone && PySem.W.codeHdIn K t.1 t.2.1 && (TC K).all fun u => !decide (t.2.1 = u.2.1) || decide (t.2.2 = u.2.2)
theorem law_at {l : PySem.W.OpenLaw} {w : World} {K : PySem.W.Frag} {CX : CXT} {k n : Nat} {x : Str} {mg : Str → Option Value} {fa : Addr} {h : Heap} {ts : List Addr} (X : K.In h) (hb : tcB K ts = true) (hT : ∀ P ∈ ts, h.get? P = some { cls := .none, data := .fields #[] })
    (F : ∃ fd : FuncData, (∀ (s : Shared) (v : Value), BindsTo s fd ⟨[v], []⟩ [(x, v)]) ∧ ∀ base : Heap, K.In base → base.Ns mainGlobals mg → Tbs K mg base → FnOk l.prog w K mg base CX k fa fd [x] (spTop n K)) : LamX.LawAtS l w K CX k n x mg fa h := by
  obtain ⟨fd, hbind, F⟩ := F
  have hb' := List.all_eq_true.mp hb
  have hB : ∀ t ∈ TC K, t.2.1 ∈ ts ∧ K.lookup t.2.1 = none ∧ PySem.W.codeHdIn K t.1 t.2.1 = true ∧ ∀ u ∈ TC K, t.2.1 = u.2.1 → t.2.2 = u.2.2 := fun t ht => by
    have := hb' t ht
    rw [Bool.and_eq_true, Bool.and_eq_true, Bool.and_eq_true] at this
    obtain ⟨⟨⟨a1, a2⟩, a3⟩, a4⟩ := this
    refine ⟨of_decide_eq_true a1, Option.isNone_iff_eq_none.mp a2, a3, fun u hu e => ?_⟩
    have := List.all_eq_true.mp a4 u hu
    rw [Bool.or_eq_true] at this
    rcases this with z | z
    · rw [decide_eq_true e] at z
      cases z
    · exact of_decide_eq_true z
  refine ⟨fd, (TC K).map fun t => (t.1, t.2.1), spTop n K, fun p hp => ?_, fun p hp => ?_, fun p hp => ?_, hbind, fun H a ns hl _ hH hS => ⟨⟨fun p hp => ?_, fun p hp => ⟨by simp, by simp⟩, fun p hp q hq e => ?_⟩, a, ns, rfl, hS, hl, fun _ _ e => e⟩, fun base h1 h2 h3 => F base h1 h2 fun t ht => h3 _ (List.mem_map.mpr ⟨t, ht, rfl⟩)⟩
  · obtain ⟨t, ht, rfl⟩ := List.mem_map.mp hp
    exact hT _ (hB t ht).1
  · obtain ⟨t, ht, rfl⟩ := List.mem_map.mp hp
    exact (hB t ht).2.1
  · obtain ⟨t, ht, rfl⟩ := List.mem_map.mp hp
    exact PySem.W.codeHd_of_K X (hB t ht).2.2.1
  · obtain ⟨t, ht, rfl⟩ := List.mem_map.mp hp
    exact LamX.TabS.nil (hH _ (List.mem_map.mpr ⟨t, ht, rfl⟩))
  · obtain ⟨t, ht, rfl⟩ := List.mem_map.mp hp
    obtain ⟨u, hu, rfl⟩ := List.mem_map.mp hq
    exact (hB t ht).2.2.2 u hu e
end DL

set_option Elab.async false
set_option linter.all false
set_option maxRecDepth 100000
set_option maxHeartbeats 4000000
/-! DL38: two clauses over data; what a stable sort is. -/
namespace DL
open PySem PySem.Spec PyProof.Rows L2
theorem wip_eq {en en' : Env} {vs : List Nat} [q : Wip en vs en'] : wipeE en vs = en' := q.eq
section
variable {α β : Type} {t t1 : Tg} {E : WE} {F1 : WI} {ok : Sto → Prop} {en : Env} {k : KA} {vs1 : List Nat}
theorem lc_acc (g : β → PyData) (f : β → PyData) {S : Sto} : ∀ (ys : List β) (acc : List Val), acc.length + ys.length ≤ 1000000 →
    (∀ y ∈ ys, ∃ en', t1.w (.d (g y)) en = some en' ∧ ∀ k' : KE, k' (.d (f y)) S → E noX en' S k') → k (acc ++ (ys.map f).map Val.d) S → wLcT t1 wYes E (fun _ => True) en k ((ys.map g).map Val.d) acc S
  | [], acc, _, _, h => ⟨True.intro, by simpa using h⟩
  | y :: ys, acc, hl, st, h => by
    obtain ⟨en', e1, h1⟩ := st y List.mem_cons_self
    rw [List.map_cons, List.map_cons]
    refine ⟨True.intro, ?_⟩
    show match t1.w (.d (g y)) en with
      | some en' => wYes noX en' S fun b S1 => if b = true then E noX en' S1 fun y S2 => acc.length < 1000000 ∧ wLcT t1 wYes E (fun _ => True) en k ((ys.map g).map Val.d) (acc ++ [y]) S2 else wLcT t1 wYes E (fun _ => True) en k ((ys.map g).map Val.d) acc S1
      | none => False
    rw [e1]
    unfold wYes
    dsimp only
    rw [if_pos rfl]
    rw [List.length_cons] at hl
    refine h1 _ ⟨by omega, lc_acc g f ys _ (by simp; omega) (fun z hz => st z (List.mem_cons_of_mem _ hz)) ?_⟩
    simpa using h
theorem lc2_data (g : α → PyData) (xs : List α) (its : α → List β) (gi : β → PyData) (f : α → β → PyData) {S : Sto} (hok : ok S) (htot : ((xs.map its).flatten).length ≤ 1000000)
    (step : ∀ x ∈ xs, ∃ en' en1, t.w (.d (g x)) en = some en' ∧ wipeE en' vs1 = en1 ∧ (∀ ki : KI, ki (((its x).map gi).map Val.d) (fun _ => True) S → F1 noX en' S ki) ∧ ∀ y ∈ its x, ∃ en'', t1.w (.d (gi y)) en1 = some en'' ∧ ∀ k' : KE, k' (.d (f x y)) S → E noX en'' S k')
    (fin : k (((xs.map fun x => (its x).map (f x)).flatten).map Val.d) S) : wLcT2 t wYes vs1 F1 t1 wYes E ok en k ((xs.map g).map Val.d) [] S := by
  rw [List.map_map]
  have flen : ∀ l : List α, ((l.map fun x => (its x).map (f x)).flatten).length = ((l.map its).flatten).length := by
    intro l
    induction l with
    | nil => rfl
    | cons x l ih => simp [ih]
  refine lc2_map (Val.d ∘ g) xs (fun x => ((its x).map (f x)).map Val.d) hok (fun x acc l r ex ea => ?_) ?_
  · obtain ⟨en', en1, e1, e2, h1, h2⟩ := step x (by rw [ex]; simp)
    refine ⟨en', e1, fun k' hk => ?_⟩
    unfold wYes
    dsimp only
    rw [if_pos rfl]
    refine h1 _ ?_
    rw [e2]
    refine lc_acc gi (f x) (its x) acc ?_ h2 hk
    have z1 : acc.length = ((l.map its).flatten).length := by
      rw [ea, show (l.map fun x => ((its x).map (f x)).map Val.d).flatten = ((l.map fun x => (its x).map (f x)).flatten).map Val.d by rw [List.map_flatten, List.map_map]; rfl, List.length_map, flen]
    rw [ex] at htot
    simp at htot z1 ⊢
    omega
  · rw [show (xs.map fun x => ((its x).map (f x)).map Val.d).flatten = ((xs.map fun x => (its x).map (f x)).flatten).map Val.d by rw [List.map_flatten, List.map_map]; rfl]
    exact fin
end
/-! ### a stable sort by a number is a sort by that and more, where the list stands by the rest -/
theorem sort_lex {α : Type} {le : α → α → Bool} (T : PySem.W.TotalLe le) (f : α → Int) (g : α → α → Prop) {P : List α} (hP : P.Pairwise g) (h1 : ∀ a ∈ P, ∀ b ∈ P, f a < f b → le a b = true ∧ le b a = false) (h2 : ∀ a ∈ P, ∀ b ∈ P, f a = f b → g a b → le a b = true ∧ le b a = false) :
    P.mergeSort le = P.mergeSort fun a b => decide (f a ≤ f b) := by
  have Tf : PySem.W.TotalLe fun a b : α => decide (f a ≤ f b) := ⟨fun a b c => by simp only [decide_eq_true_eq]; omega, fun a b => by simp only [decide_eq_true_eq]; omega⟩
  have hperm := List.mergeSort_perm P fun a b => decide (f a ≤ f b)
  have hsrt := PySem.W.sort_pairwise Tf P
  have hst := PySem.W.sort_stable Tf P
  generalize P.mergeSort (fun a b => decide (f a ≤ f b)) = M at hperm hsrt hst
  have two : ∀ a b, [a, b].Sublist M → le a b = true ∧ le b a = false := by
    intro a b hs
    have ha := hperm.mem_iff.mp (hs.subset (List.mem_cons_self))
    have hb := hperm.mem_iff.mp (hs.subset (List.mem_cons_of_mem _ List.mem_cons_self))
    have hab : f a ≤ f b := of_decide_eq_true (List.pairwise_iff_forall_sublist.mp hsrt hs)
    rcases Int.lt_or_eq_of_le hab with h | h
    · exact h1 a ha b hb h
    · refine h2 a ha b hb h ?_
      have q := hs.filter (PySem.W.sameRank (fun a b => decide (f a ≤ f b)) a)
      rw [hst] at q
      have ra : PySem.W.sameRank (fun a b => decide (f a ≤ f b)) a a = true := PySem.W.sameRank_self Tf a
      have rb : PySem.W.sameRank (fun a b => decide (f a ≤ f b)) a b = true := by unfold PySem.W.sameRank; simp; omega
      rw [List.filter_cons, if_pos ra, List.filter_cons, if_pos rb, List.filter_nil] at q
      exact List.pairwise_iff_forall_sublist.mp hP (q.trans List.filter_sublist)
  refine (PySem.W.sort_unique T (l := P) (m := M) (List.pairwise_iff_forall_sublist.mpr fun {a b} hs => (two a b hs).1) fun c => ?_).symm
  have small : ∀ l : List α, l.Pairwise (fun a b => ¬ (PySem.W.sameRank le c a = true ∧ PySem.W.sameRank le c b = true)) → (l.filter (PySem.W.sameRank le c)).length ≤ 1 := by
    intro l hl
    have := hl.filter (PySem.W.sameRank le c)
    match hm : l.filter (PySem.W.sameRank le c) with
    | [] => simp
    | [x] => simp
    | x :: y :: r =>
      rw [hm] at this
      have hx : x ∈ l.filter (PySem.W.sameRank le c) := by rw [hm]; simp
      have hy : y ∈ l.filter (PySem.W.sameRank le c) := by rw [hm]; simp
      have := (List.pairwise_cons.mp this).1 y List.mem_cons_self
      exact absurd ⟨(List.mem_filter.mp hx).2, (List.mem_filter.mp hy).2⟩ this
  have q := (hperm.filter (PySem.W.sameRank le c))
  have hl := small M (List.pairwise_iff_forall_sublist.mpr fun {a b} hs => fun ⟨r1, r2⟩ => by
    obtain ⟨t1, t2⟩ := two a b hs
    unfold PySem.W.sameRank at r1 r2
    rw [Bool.and_eq_true] at r1 r2
    have := T.trans b c a (by first | exact r2.1 | exact r2.2) (by first | exact r1.2 | exact r1.1)
    rw [this] at t2
    cases t2)
  match hm : M.filter (PySem.W.sameRank le c), hn : P.filter (PySem.W.sameRank le c) with
  | [], n => rw [hm, hn] at q; exact (List.Perm.nil_eq q)
  | [x], n =>
    rw [hm, hn] at q
    exact (List.perm_singleton.mp q.symm).symm
  | x :: y :: r, n => rw [hm] at hl; simp at hl
/-! ### objects ahead of the newest one -/
section
variable {S : Sto} {i : Nat} {o x : Ob} {f : Ob → Sto}
instance (priority := 300) [h : StG S i o] : StG (S ++ [x]) i o := ⟨by
  have hi := (List.getElem?_eq_some_iff.mp h.eq).1
  rw [List.getElem?_append_left hi]
  exact h.eq⟩
theorem set_app (hi : i < S.length) (y : Ob) : (S ++ [x]).set i y = S.set i y ++ [x] := by rw [List.set_append_left _ _ hi]
instance (priority := 300) [g : StG S i o] [h : StP S i f] : StP (S ++ [x]) i (fun y => f y ++ [x]) := ⟨fun y => by
  have hi := (List.getElem?_eq_some_iff.mp g.eq).1
  rw [set_app hi, h.eq]⟩
instance {a b : Ob} : StG (S ++ [a] ++ [b]) (S.length + 1) b := ⟨by simp⟩
instance {a b : Ob} : StP (S ++ [a] ++ [b]) (S.length + 1) (fun y => S ++ [a] ++ [y]) := ⟨fun y => by
  rw [show S.length + 1 = (S ++ [a]).length by simp, last_set]⟩
end
end DL

set_option Elab.async false
set_option linter.all false
set_option maxRecDepth 100000
set_option maxHeartbeats 4000000
/-! Z23: rows woven. -/
namespace DL
open PySem PySem.Spec PyProof.Rows L2
local macro_rules | `(tactic| walk_at "dc") => `(tactic| (first | with_reducible exact True.intro | with_reducible exact mulL (by decide) | with_reducible exact mulR (by decide) | with_reducible exact mulL (by omega) | with_reducible exact mulR (by omega) | with_reducible assumption | omega | decide | exact ⟨by decide, by decide⟩ | (refine ⟨?_, ?_⟩ <;> first | with_reducible assumption | decide +kernel) | (simp only [List.length_map, List.length_cons, List.length_nil, List.length_append, List.length_range, List.length_replicate, List.length_reverse]; omega)))
local macro_rules | `(tactic| walk_at "dl") => `(tactic| (repeat' (first | refine Stp.h ?_ | refine Stc.h (by walk_at "dc") ?_ | with_reducible (first | refine i_iteTr (by decide) ?_ | refine i_iteFr (by decide) ?_ | refine i_lcA (by decide) ?_ | refine ⟨o_lst (by with_unfolding_all rfl), ?_⟩) | dsimp only)))
local macro_rules | `(tactic| walk_at "dn") => `(tactic| (repeat' ((fail_if_success (with_reducible refine i_seq ?_)); first | refine Stp.h ?_ | refine Stc.h (by walk_at "dc") ?_ | with_reducible (first | refine i_iteTr (by decide) ?_ | refine i_iteFr (by decide) ?_ | refine i_lcA (by decide) ?_ | refine ⟨o_lst (by with_unfolding_all rfl), ?_⟩) | dsimp only)))
def apartF : Int → List Sg → List Sg
  | _, [] => []
  | z, s :: l => ⟨s.a - z, s.b - z, s.s⟩ :: apartF s.b l
def lastV : Int → List Sg → Int
  | z, [] => z
  | _, s :: l => lastV s.b l
def sp_apart : Spec := pureSp 1 (List Sg) (fun l => [rowD l]) (fun l => l.length ≤ 100000) fun l => .list ((apartF 0 l).map Sg.d)
def N_apart : List Str := ["row", "found", "ahead", "hill", "valley", "steps"]
def G_apart : WS := (wSeq (wSet 1 (wLstM wNil))
 (wSeq (wSet 2 (wC (.int 0)))
 (wSeq (wFor (.tp [(.nm 3), (.nm 4), (.nm 5)]) (wItSeq (wVar 0))
  (wSeq (wExpr (wBM "list" vAppend (wVar 1) (wCons (wTup (wCons (wOp vSub (wVar 3) (wVar 2)) (wCons (wOp vSub (wVar 4) (wVar 2)) (wCons (wVar 5) wNil)))) wNil)))
  (wSet 2 (wVar 4))))
 (wRet (wFrz (wVar 1))))))

def pileF : Int → List Sg → List Sg
  | _, [] => []
  | z, s :: l => ⟨z + s.a, z + s.b, s.s⟩ :: pileF (z + s.b) l
def topV : Int → List Sg → Int
  | z, [] => z
  | z, s :: l => topV (z + s.b) l
def fallLe (x y : Sg) : Bool := decide (x.b - x.a ≤ y.b - y.a)
def sortF (rows : List (List Sg)) : List Sg := ((rows.map (apartF 0)).flatten).mergeSort fallLe
def weaveF (rows : List (List Sg)) : List Sg := pileF 0 (sortF rows)
def Wv (rows : List (List Sg)) : Prop := rows.length ≤ 100000 ∧ rows.flatten.length ≤ 100000
def sp_weave : Spec := pureSp 1 (Bool × List (List Sg)) (fun g => [sqd g.1 (g.2.map rowD)]) (fun g => Wv g.2) fun g => rowD (weaveF g.2)
def N_weave : List Str := ["rows", "segments", "found", "base", "hill", "valley", "steps", "row", "segment"]
def G_weave : WS := (wSeq (wSet 1 (wLc2 [7, 8] [8] (.nm 7) (wItSeq (wVar 0)) wYes (.nm 8) (wItSeq (wCall sp_apart (wCons (wVar 7) wNil))) wYes (wVar 8)))
 (wSeq (wSet 2 (wLstM wNil))
 (wSeq (wSet 3 (wC (.int 0)))
 (wSeq (wFor (.tp [(.nm 4), (.nm 5), (.nm 6)]) (wItSeq (wSortSeg (wVar 1)))
  (wSeq (wExpr (wBM "list" vAppend (wVar 2) (wCons (wTup (wCons (wOp vAdd (wVar 3) (wVar 4)) (wCons (wOp vAdd (wVar 3) (wVar 5)) (wCons (wVar 6) wNil)))) wNil)))
  (wAug 3 (wVar 5) vIAdd)))
 (wRet (wCB vTuple (wCons (wVar 2) wNil)))))))

def AlikeS (rows : List (List Sg)) : Prop := ∀ s ∈ rows.flatten, ∀ t ∈ rows.flatten, PySem.W.alikeAll s.s t.s = true ∧ PyData.depthAll s.s ≤ 30
def sp_law_woven : Spec := pureSp 1 (Bool × Bool × List (List Sg)) (fun g => [sqd g.1 (g.2.2.map fun r => sqd g.2.1 (r.map Sg.d))]) (fun g => Wv g.2.2 ∧ AlikeS g.2.2) fun g => .list ((weaveF g.2.2).map Sg.d)
def N_law_woven : List Str := ["rows", "parts", "r", "before", "k", "hill", "low", "steps", "found", "held", "fall"]
def G_law_woven : WS := (wSeq (wSet 1 (wLstM wNil))
 (wSeq (wFor (.nm 2) (wRng1 (wCB vLen (wCons (wVar 0) wNil)))
  (wSeq (wSet 3 (wC (.int 0)))
  (wFor (.nm 4) (wRng1 (wCB vLen (wCons (wOp vIx (wVar 0) (wVar 2)) wNil)))
   (wSeq (wAsg (.tp [(.nm 5), (.nm 6), (.nm 7)]) (wOp vIx (wOp vIx (wVar 0) (wVar 2)) (wVar 4)))
   (wSeq (wExpr (wBM "list" vAppend (wVar 1) (wCons (wTup (wCons (wOp vSub (wVar 6) (wVar 5)) (wCons (wVar 2) (wCons (wVar 4) (wCons (wOp vSub (wVar 5) (wVar 3)) (wCons (wOp vSub (wVar 6) (wVar 3)) (wCons (wVar 7) wNil))))))) wNil)))
   (wSet 3 (wVar 6)))))))
 (wSeq (wPar [8, 9] (wCons (wLstM wNil) (wCons (wC (.int 0)) wNil)))
 (wSeq (wFor (.tp [(.nm 10), (.nm 2), (.nm 4), (.nm 5), (.nm 6), (.nm 7)]) (wItSeq (wCB vSorted (wCons (wVar 1) wNil)))
  (wSeq (wExpr (wBM "list" vAppend (wVar 8) (wCons (wTup (wCons (wOp vAdd (wVar 9) (wVar 5)) (wCons (wOp vAdd (wVar 9) (wVar 6)) (wCons (wVar 7) wNil)))) wNil)))
  (wAug 9 (wVar 6) vIAdd)))
 (wRet (wFrz (wVar 8)))))))

theorem apart_len : ∀ (z : Int) (l : List Sg), (apartF z l).length = l.length
  | _, [] => rfl
  | _, s :: l => by rw [apartF, List.length_cons, List.length_cons, apart_len]
theorem apart_snoc : ∀ (z : Int) (l : List Sg) (s : Sg), apartF z (l ++ [s]) = apartF z l ++ [⟨s.a - lastV z l, s.b - lastV z l, s.s⟩]
  | _, [], _ => rfl
  | _, x :: l, s => by rw [List.cons_append, apartF, apartF, apart_snoc, List.cons_append, lastV]
theorem lastV_snoc : ∀ (z : Int) (l : List Sg) (s : Sg), lastV z (l ++ [s]) = s.b
  | _, [], _ => rfl
  | _, x :: l, s => by rw [List.cons_append, lastV, lastV_snoc]
theorem pile_len : ∀ (z : Int) (l : List Sg), (pileF z l).length = l.length
  | _, [] => rfl
  | _, s :: l => by rw [pileF, List.length_cons, List.length_cons, pile_len]
theorem pile_snoc : ∀ (z : Int) (l : List Sg) (s : Sg), pileF z (l ++ [s]) = pileF z l ++ [⟨topV z l + s.a, topV z l + s.b, s.s⟩]
  | _, [], _ => rfl
  | _, x :: l, s => by rw [List.cons_append, pileF, pileF, pile_snoc, List.cons_append, topV]
theorem topV_snoc : ∀ (z : Int) (l : List Sg) (s : Sg), topV z (l ++ [s]) = topV z l + s.b
  | _, [], _ => rfl
  | _, x :: l, s => by rw [List.cons_append, topV, topV, topV_snoc]
theorem aparts_len (rows : List (List Sg)) : ((rows.map (apartF 0)).flatten).length = rows.flatten.length := by
  induction rows with
  | nil => rfl
  | cons r rows ih => rw [List.map_cons, List.flatten_cons, List.flatten_cons, List.length_append, List.length_append, ih, apart_len]
theorem sort_len (rows : List (List Sg)) : (sortF rows).length = rows.flatten.length := by
  rw [sortF, List.length_mergeSort, aparts_len]
theorem segV_d (s : Sg) : segV s.d = s.b - s.a := rfl
theorem sort_seg (l : List Sg) : (l.map Sg.d).mergeSort segLe = (l.mergeSort fallLe).map Sg.d := by
  rw [List.map_mergeSort (r := fallLe) (s := segLe) (f := Sg.d) fun a _ b _ => rfl]
section
variable {S : Sto} {k : KE} {kx : Exc → Sto → Prop}
theorem keeps_apart : Keeps N_apart sp_apart G_apart := keeps_pure fun W dn l hl hr _ => by
  (unfold G_apart N_apart; simp only [startE, List.map_cons, List.map_nil, List.length_cons, List.length_nil, List.cons_append, List.nil_append, Nat.reduceAdd, Nat.reduceSub, List.replicate_succ, List.replicate_zero])
  walk_at "dl"
  refine turns_map Sg.d l (fun p en S => ∃ x3 x4 x5, en = [some (.d (rowD l)), some (.r 0), some (.d (.int (lastV 0 p))), x3, x4, x5] ∧ S = [.lst (((apartF 0 p).map Sg.d).map Val.d)]) (fun _ _ _ _ => True.intro) ?_ ?_ ⟨_, _, _, rfl, rfl⟩
  · rintro p s r en S el ⟨x3, x4, x5, rfl, rfl⟩
    have hlen := congrArg List.length el
    rw [List.length_append, List.length_cons] at hlen
    have hp := apart_len 0 p
    refine ⟨_, tg_eq, fun nx hn => ?_⟩
    walk_at "dl"
    refine hn _ _ ⟨_, _, _, by rw [lastV_snoc], ?_⟩
    rw [apart_snoc]
    simp
  · rintro en S ⟨x3, x4, x5, rfl, rfl⟩
    walk_at "dl"
    exact hr _
instance call_apart {l : List Sg} : Stc (callF sp_apart [.d (.tuple (l.map Sg.d))] S k kx) (l.length ≤ 100000) (k (.d (.list ((apartF 0 l).map Sg.d))) S) := ⟨fun c h => call_pure l rfl c h⟩
theorem keeps_weave : Keeps N_weave sp_weave G_weave := keeps_pure fun W dn g hl hr _ => by
  obtain ⟨b, rows⟩ := g
  obtain ⟨h1, h2⟩ := hl
  dsimp only at h1 h2 hr
  (unfold G_weave N_weave; simp only [startE, List.map_cons, List.map_nil, List.length_cons, List.length_nil, List.cons_append, List.nil_append, Nat.reduceAdd, Nat.reduceSub, List.replicate_succ, List.replicate_zero])
  walk_at "dl"
  have hrl : ∀ l ∈ rows, l.length ≤ 100000 := fun l hl => Nat.le_trans (List.Sublist.length_le (List.sublist_flatten_of_mem hl)) h2
  have ha := aparts_len rows
  have hsl := sort_len rows
  refine lc2_data rowD rows (apartF 0) Sg.d (fun _ s => s.d) True.intro (by omega) (fun l hl => ⟨_, _, tg_eq, wip_eq, fun ki hk => ?_, fun s hs => ⟨_, tg_eq, fun k' hk => ?_⟩⟩) ?_
  · have := hrl l hl
    walk_at "dl"
    exact hk
  · walk_at "dl"
    exact hk
  rw [show (rows.map fun x => (apartF 0 x).map fun s => s.d).flatten = ((rows.map (apartF 0)).flatten).map Sg.d by rw [List.map_flatten, List.map_map]; rfl]
  walk_at "dl"
  refine Stc.h (fun d hd => ?_) ?_
  · obtain ⟨s, _, rfl⟩ := List.mem_map.mp hd
    rfl
  rw [sort_seg]
  walk_at "dl"
  refine turns_map Sg.d (sortF rows) (fun p en S => ∃ x4 x5 x6, en = [some (.d (sqd b (rows.map rowD))), some (.d (.list (((rows.map (apartF 0)).flatten).map Sg.d))), some (.r 0), some (.d (.int (topV 0 p))), x4, x5, x6, none, none] ∧ S = [.lst (((pileF 0 p).map Sg.d).map Val.d)]) (fun _ _ _ _ => True.intro) ?_ ?_ ⟨_, _, _, rfl, rfl⟩
  · rintro p s r en S el ⟨x4, x5, x6, rfl, rfl⟩
    have hlen := congrArg List.length el
    rw [List.length_append, List.length_cons] at hlen
    have hp := pile_len 0 p
    refine ⟨_, tg_eq, fun nx hn => ?_⟩
    walk_at "dl"
    refine hn _ _ ⟨_, _, _, by rw [topV_snoc], ?_⟩
    rw [pile_snoc]
    simp
  · rintro en S ⟨x4, x5, x6, rfl, rfl⟩
    walk_at "dl"
    exact hr _
theorem call_weave {b : Bool} {rows : List (List Sg)} (h : Wv rows) (q : k (.d (rowD (weaveF rows))) S) : callF sp_weave [.d (sqd b (rows.map rowD))] S k kx := call_pure (b, rows) rfl h q
theorem call_weaveT {rows : List (List Sg)} (h : Wv rows) (q : k (.d (rowD (weaveF rows))) S) : callF sp_weave [.d (.tuple (rows.map rowD))] S k kx := call_weave (b := false) h q
end
/-! ### the law's own -/
abbrev Pt6 := Nat × Nat × Sg
abbrev ptD (p : Pt6) : PyData := .tuple [.int (p.2.2.b - p.2.2.a), .int (p.1 : Nat), .int (p.2.1 : Nat), .int p.2.2.a, .int p.2.2.b, .tuple p.2.2.s]
def ptsRow (r : Nat) : Nat → List Sg → List Pt6
  | _, [] => []
  | k, s :: l => (r, k, s) :: ptsRow r (k + 1) l
def ptsF : Nat → List (List Sg) → List Pt6
  | _, [] => []
  | r, l :: rows => ptsRow r 0 (apartF 0 l) ++ ptsF (r + 1) rows
theorem ptsRow_snoc (r : Nat) : ∀ (k : Nat) (l : List Sg) (s : Sg), ptsRow r k (l ++ [s]) = ptsRow r k l ++ [(r, k + l.length, s)]
  | _, [], _ => rfl
  | k, x :: l, s => by rw [List.cons_append, ptsRow, ptsRow, ptsRow_snoc r (k + 1) l s, List.cons_append, List.length_cons, Nat.add_right_comm, Nat.add_assoc]
theorem ptsF_snoc : ∀ (r : Nat) (rows : List (List Sg)) (l : List Sg), ptsF r (rows ++ [l]) = ptsF r rows ++ ptsRow (r + rows.length) 0 (apartF 0 l)
  | _, [], _ => by simp [ptsF]
  | r, x :: rows, l => by rw [List.cons_append, ptsF, ptsF, ptsF_snoc (r + 1) rows l, List.append_assoc, List.length_cons, Nat.add_right_comm, Nat.add_assoc]
theorem ptsRow_sg (r : Nat) : ∀ (k : Nat) (l : List Sg), (ptsRow r k l).map (·.2.2) = l
  | _, [] => rfl
  | k, s :: l => by rw [ptsRow, List.map_cons, ptsRow_sg]
theorem ptsF_sg : ∀ (r : Nat) (rows : List (List Sg)), (ptsF r rows).map (·.2.2) = (rows.map (apartF 0)).flatten
  | _, [] => rfl
  | r, l :: rows => by rw [ptsF, List.map_append, ptsRow_sg, ptsF_sg, List.map_cons, List.flatten_cons]
abbrev ptLt (p q : Pt6) : Prop := p.1 < q.1 ∨ (p.1 = q.1 ∧ p.2.1 < q.2.1)
theorem ptsRow_at (r : Nat) : ∀ (k : Nat) (l : List Sg), ∀ p ∈ ptsRow r k l, p.1 = r ∧ k ≤ p.2.1
  | _, [], p, h => by cases h
  | k, s :: l, p, h => by
    rw [ptsRow] at h
    rcases List.mem_cons.mp h with e | h
    · rw [e]
      exact ⟨rfl, Nat.le_refl _⟩
    · obtain ⟨a, b⟩ := ptsRow_at r (k + 1) l p h
      exact ⟨a, by omega⟩
theorem ptsRow_lt (r : Nat) : ∀ (k : Nat) (l : List Sg), (ptsRow r k l).Pairwise ptLt
  | _, [] => .nil
  | k, s :: l => by
    rw [ptsRow]
    refine List.pairwise_cons.mpr ⟨fun q hq => ?_, ptsRow_lt r (k + 1) l⟩
    obtain ⟨a, b⟩ := ptsRow_at r (k + 1) l q hq
    exact .inr ⟨a.symm, b⟩
theorem ptsF_at : ∀ (r : Nat) (rows : List (List Sg)), ∀ p ∈ ptsF r rows, r ≤ p.1
  | _, [], p, h => by cases h
  | r, l :: rows, p, h => by
    rw [ptsF] at h
    rcases List.mem_append.mp h with h | h
    · rw [(ptsRow_at r 0 _ p h).1]
      exact Nat.le_refl _
    · have := ptsF_at (r + 1) rows p h
      omega
theorem ptsF_lt : ∀ (r : Nat) (rows : List (List Sg)), (ptsF r rows).Pairwise ptLt
  | _, [] => .nil
  | r, l :: rows => by
    rw [ptsF]
    refine List.pairwise_append.mpr ⟨ptsRow_lt r 0 _, ptsF_lt (r + 1) rows, fun p hp q hq => .inl ?_⟩
    rw [(ptsRow_at r 0 _ p hp).1]
    exact ptsF_at (r + 1) rows q hq
theorem lt_tup (a b : Int) (xs ys : List PyData) : PySem.W.dataLt (.tuple (.int a :: xs)) (.tuple (.int b :: ys)) = if a = b then PySem.W.dataLt (.tuple xs) (.tuple ys) else decide (a < b) := by
  rw [PySem.W.dataLt_tuple, PySem.W.dataLt_cons (by simp [PySem.W.alike]), ← PySem.W.dataLt_tuple, PySem.W.dataLt_int]
  by_cases h : a = b <;> simp [PyData.eqv, h]
theorem tup_lt {a b : Int} {xs ys : List PyData} (h : a < b) : PySem.W.dataLt (.tuple (.int a :: xs)) (.tuple (.int b :: ys)) = true := by
  rw [lt_tup, if_neg (by omega), decide_eq_true h]
theorem tup_gt {a b : Int} {xs ys : List PyData} (h : b < a) : PySem.W.dataLt (.tuple (.int a :: xs)) (.tuple (.int b :: ys)) = false := by
  rw [lt_tup, if_neg (by omega), decide_eq_false (by omega)]
theorem tup_eq {a b : Int} {xs ys : List PyData} (h : a = b) : PySem.W.dataLt (.tuple (.int a :: xs)) (.tuple (.int b :: ys)) = PySem.W.dataLt (.tuple xs) (.tuple ys) := by
  rw [lt_tup, if_pos h]
theorem dle_lt (x y : PyData) : dle x y = !PySem.W.dataLt y x := rfl
theorem pt_total : PySem.W.TotalLe fun p q : Pt6 => dle (ptD p) (ptD q) := PySem.W.sortLe_total _ false _
theorem pts_sort (rows : List (List Sg)) : ((ptsF 0 rows).map ptD).mergeSort dle = ((ptsF 0 rows).mergeSort fun p q => decide (p.2.2.b - p.2.2.a ≤ q.2.2.b - q.2.2.a)).map ptD := by
  rw [← List.map_mergeSort (r := fun p q : Pt6 => dle (ptD p) (ptD q)) (s := dle) (f := ptD) fun a _ b _ => rfl]
  rw [sort_lex pt_total (fun p => p.2.2.b - p.2.2.a) ptLt (ptsF_lt 0 rows) (fun p _ q _ h => ?_) fun p _ q _ h g => ?_]
  · rw [dle_lt, dle_lt, ptD, ptD, tup_gt (by omega), tup_lt (by omega)]
    exact ⟨rfl, rfl⟩
  · rw [dle_lt, dle_lt, ptD, ptD, tup_eq h.symm, tup_eq h]
    rcases g with g | ⟨g, g2⟩
    · rw [tup_gt (by omega), tup_lt (by omega)]
      exact ⟨rfl, rfl⟩
    · have e1 : (q.1 : Int) = (p.1 : Nat) := by omega
      have e2 : (p.2.1 : Int) < (q.2.1 : Nat) := by omega
      rw [tup_eq e1, tup_eq e1.symm, tup_gt e2, tup_lt e2]
      exact ⟨rfl, rfl⟩
def srtP (rows : List (List Sg)) : List Pt6 := (ptsF 0 rows).mergeSort fun p q => decide (p.2.2.b - p.2.2.a ≤ q.2.2.b - q.2.2.a)
theorem srt_sg (rows : List (List Sg)) : (srtP rows).map (·.2.2) = sortF rows := by
  rw [srtP, List.map_mergeSort (r := fun p q : Pt6 => decide (p.2.2.b - p.2.2.a ≤ q.2.2.b - q.2.2.a)) (s := fallLe) (f := fun p : Pt6 => p.2.2) fun a _ b _ => rfl, ptsF_sg]
  rfl
theorem apart_mem : ∀ (z : Int) (l : List Sg), ∀ x ∈ apartF z l, ∃ y ∈ l, x.s = y.s
  | _, [], x, h => by cases h
  | z, s :: l, x, h => by
    rw [apartF] at h
    rcases List.mem_cons.mp h with e | h
    · exact ⟨s, List.mem_cons_self, by rw [e]⟩
    · obtain ⟨y, hy, e⟩ := apart_mem s.b l x h
      exact ⟨y, List.mem_cons_of_mem _ hy, e⟩
theorem pts_steps {rows : List (List Sg)} {p : Pt6} (h : p ∈ ptsF 0 rows) : ∃ y ∈ rows.flatten, p.2.2.s = y.s := by
  have h2 : p.2.2 ∈ (rows.map (apartF 0)).flatten := by
    rw [← ptsF_sg 0]
    exact List.mem_map.mpr ⟨p, h, rfl⟩
  obtain ⟨l', hl', hx⟩ := List.mem_flatten.mp h2
  obtain ⟨l, hl, rfl⟩ := List.mem_map.mp hl'
  obtain ⟨y, hy, e⟩ := apart_mem 0 l _ hx
  exact ⟨y, List.mem_flatten.mpr ⟨l, hl, hy⟩, e⟩
theorem pts_ok {rows : List (List Sg)} (h : AlikeS rows) : SortOk ((ptsF 0 rows).map ptD) := by
  refine ⟨fun d hd e he => ?_, PySem.W.Sortable.tuples fun p => ⟨_, _, rfl⟩, fun d hd => ?_⟩
  · obtain ⟨p, hp, rfl⟩ := List.mem_map.mp hd
    obtain ⟨q, hq, rfl⟩ := List.mem_map.mp he
    obtain ⟨x, hx, ex⟩ := pts_steps hp
    obtain ⟨y, hy, ey⟩ := pts_steps hq
    have := (h x hx y hy).1
    simp only [ptD, PySem.W.alike, PySem.W.alikeAll, Bool.true_and, Bool.and_true, ex, ey]
    exact this
  · obtain ⟨p, hp, rfl⟩ := List.mem_map.mp hd
    obtain ⟨x, hx, ex⟩ := pts_steps hp
    have := (h x hx x hx).2
    simp only [ptD, PyData.depth, PyData.depthAll, ex]
    omega
section
variable {S : Sto} {k : KE} {kx : Exc → Sto → Prop}
theorem pts_len (rows : List (List Sg)) : (ptsF 0 rows).length = rows.flatten.length := by
  rw [← aparts_len, ← ptsF_sg 0, List.length_map]
theorem keeps_law_woven : Keeps N_law_woven sp_law_woven G_law_woven := keeps_pure fun W dn g hg hr _ => by
  obtain ⟨b, b2, rows⟩ := g
  obtain ⟨⟨h1, h2⟩, hal⟩ := hg
  dsimp only at h1 h2 hal hr
  have hpl := pts_len rows
  (unfold G_law_woven N_law_woven; simp only [startE, List.map_cons, List.map_nil, List.length_cons, List.length_nil, List.cons_append, List.nil_append, Nat.reduceAdd, Nat.reduceSub, List.replicate_succ, List.replicate_zero])
  walk_at "dl"
  have hN : (((rows.map fun r => sqd b2 (r.map Sg.d)).length : Int) - 0).toNat = rows.length := by rw [List.length_map]; omega
  refine turns_rng (fun i en S => ∃ x2 x3 x4 x5 x6 x7, en = [some (.d (sqd b (rows.map fun r => sqd b2 (r.map Sg.d)))), some (.r 0), x2, x3, x4, x5, x6, x7, none, none, none] ∧ S = [.lst (((ptsF 0 (rows.take i)).map ptD).map Val.d)]) (fun _ _ _ _ => True.intro) ?_ ?_ ⟨_, _, _, _, _, _, rfl, rfl⟩
  · rintro i en S hi ⟨x2, x3, x4, x5, x6, x7, rfl, rfl⟩
    rw [hN] at hi
    have el : rows[i]? = some rows[i] := List.getElem?_eq_getElem hi
    have hrow : rows[i].length ≤ 100000 := Nat.le_trans (List.Sublist.length_le (List.sublist_flatten_of_mem (List.getElem_mem hi))) h2
    have hsn : rows.take (i + 1) = rows.take i ++ [rows[i]] := by rw [List.take_succ, el]; rfl
    have hlen : (ptsF 0 (rows.take i)).length + rows[i].length ≤ 100000 := by
      have := pts_len (rows.take (i + 1))
      rw [hsn, ptsF_snoc, List.length_append, List.flatten_append, List.length_append] at this
      have q2 := pts_len (rows.take i)
      have q3 : (rows.take (i + 1)).flatten.length ≤ rows.flatten.length := by
        conv => rhs; rw [← List.take_append_drop (i + 1) rows, List.flatten_append, List.length_append]
        omega
      rw [hsn, List.flatten_append, List.length_append] at q3
      rw [List.flatten_cons, List.flatten_nil, List.append_nil] at q3
      omega
    generalize rows[i] = l at el hrow hsn hlen
    refine ⟨_, tg_eq, fun nx hn => ?_⟩
    walk_at "dl"
    refine v_ixQm (n := i) (by omega) el ?_
    walk_at "dl"
    have hM : (((l.map Sg.d).length : Int) - 0).toNat = l.length := by rw [List.length_map]; omega
    refine turns_rng (fun j en S => ∃ x4 x5 x6 x7, en = [some (.d (sqd b (rows.map fun r => sqd b2 (r.map Sg.d)))), some (.r 0), some (.d (.int (0 + (i : Int)))), some (.d (.int (lastV 0 (l.take j)))), x4, x5, x6, x7, none, none, none] ∧ S = [.lst (((ptsF 0 (rows.take i) ++ ptsRow i 0 (apartF 0 (l.take j))).map ptD).map Val.d)]) (fun _ _ _ _ => True.intro) ?_ ?_ ⟨_, _, _, _, rfl, by simp [apartF, ptsRow]⟩
    · rintro j en S hj ⟨x4, x5, x6, x7, rfl, rfl⟩
      rw [hM] at hj
      have es : l[j]? = some l[j] := List.getElem?_eq_getElem hj
      have hsj : l.take (j + 1) = l.take j ++ [l[j]] := by rw [List.take_succ, es]; rfl
      generalize l[j] = s at es hsj
      have hap : (ptsRow i 0 (apartF 0 (l.take j))).length ≤ j := by
        have := congrArg List.length (ptsRow_sg i 0 (apartF 0 (l.take j)))
        rw [List.length_map, apart_len, List.length_take] at this
        omega
      refine ⟨_, tg_eq, fun nx hn => ?_⟩
      walk_at "dl"
      refine v_ixQm (n := i) (by omega) el ?_
      walk_at "dl"
      refine v_ixQm (n := j) (by omega) es ?_
      walk_at "dl"
      refine hn _ _ ⟨_, _, _, _, by rw [hsj, lastV_snoc], ?_⟩
      rw [hsj, apart_snoc, ptsRow_snoc, apart_len, List.length_take, Nat.min_eq_left (by omega)]
      simp [ptD]
      omega
    · rintro en S ⟨x4, x5, x6, x7, rfl, rfl⟩
      refine hn _ _ ⟨_, _, _, _, _, _, rfl, ?_⟩
      rw [hM, List.take_length, hsn, ptsF_snoc, List.length_take, Nat.min_eq_left (by omega), Nat.zero_add]
  · rintro en S ⟨x2, x3, x4, x5, x6, x7, rfl, rfl⟩
    rw [hN, List.take_length]
    walk_at "dl"
    refine Stc.h (pts_ok hal) ?_
    rw [pts_sort]
    walk_at "dl"
    have hsl : (srtP rows).length = rows.flatten.length := by
      have := congrArg List.length (srt_sg rows)
      rw [List.length_map, sort_len] at this
      exact this
    refine turns_map ptD (srtP rows) (fun p en S => ∃ x2 x4 x5 x6 x7 x10 o, en = [some (.d (sqd b (rows.map fun r => sqd b2 (r.map Sg.d)))), some (.r 0), x2, x3, x4, x5, x6, x7, some (.r 1), some (.d (.int (topV 0 (p.map (·.2.2))))), x10] ∧ S = [o, .lst (((pileF 0 (p.map (·.2.2))).map Sg.d).map Val.d)]) (fun _ _ _ _ => True.intro) ?_ ?_ ⟨_, _, _, _, _, _, _, rfl, rfl⟩
    · rintro p s r en S el ⟨x2, x4, x5, x6, x7, x10, o, rfl, rfl⟩
      have hlen := congrArg List.length el
      rw [List.length_append, List.length_cons] at hlen
      have hp := pile_len 0 (p.map (·.2.2))
      rw [List.length_map] at hp
      refine ⟨_, tg_eq, fun nx hn => ?_⟩
      walk_at "dl"
      refine hn _ _ ⟨_, _, _, _, _, _, o, by rw [List.map_append, List.map_singleton, topV_snoc], ?_⟩
      rw [List.map_append, List.map_singleton, pile_snoc]
      simp
    · rintro en S ⟨x2, x4, x5, x6, x7, x10, o, rfl, rfl⟩
      rw [srt_sg]
      walk_at "dl"
      exact hr _
theorem call_law_woven {b b2 : Bool} {rows : List (List Sg)} (h : Wv rows ∧ AlikeS rows) (q : k (.d (.list ((weaveF rows).map Sg.d))) S) : callF sp_law_woven [.d (sqd b (rows.map fun r => sqd b2 (r.map Sg.d)))] S k kx := call_pure (b, b2, rows) rfl h q
end
end DL

set_option Elab.async false
set_option linter.all false
set_option maxRecDepth 100000
set_option maxHeartbeats 4000000
/-! Z24: the law k14. -/
namespace DL
open PySem PySem.Spec PyProof.Rows L2
local macro_rules | `(tactic| walk_at "dc") => `(tactic| (first | with_reducible exact True.intro | with_reducible exact mulL (by decide) | with_reducible exact mulR (by decide) | with_reducible exact mulL (by omega) | with_reducible exact mulR (by omega) | with_reducible assumption | omega | decide | exact ⟨by decide, by decide⟩ | (refine ⟨?_, ?_⟩ <;> first | with_reducible assumption | decide +kernel) | (simp only [List.length_map, List.length_cons, List.length_nil, List.length_append, List.length_range, List.length_replicate, List.length_reverse]; omega)))
local macro_rules | `(tactic| walk_at "dl") => `(tactic| (repeat' (first | refine Stp.h ?_ | refine Stc.h (by walk_at "dc") ?_ | with_reducible (first | refine i_iteTr (by decide) ?_ | refine i_iteFr (by decide) ?_ | refine i_lcA (by decide) ?_ | refine ⟨o_lst (by with_unfolding_all rfl), ?_⟩) | dsimp only)))
local macro_rules | `(tactic| walk_at "dn") => `(tactic| (repeat' ((fail_if_success (with_reducible refine i_seq ?_)); first | refine Stp.h ?_ | refine Stc.h (by walk_at "dc") ?_ | with_reducible (first | refine i_iteTr (by decide) ?_ | refine i_iteFr (by decide) ?_ | refine i_lcA (by decide) ?_ | refine ⟨o_lst (by with_unfolding_all rfl), ?_⟩) | dsimp only)))
def sp_law14 : Spec := ⟨1, List Int, fun g ws S => ws = [scr g] ∧ S = [] ∧ g.length ≤ 63, fun _ w _ => w = .d (.bool true), fun _ _ _ => False, 0⟩
def N_law14 : List Str := ["script", "turn", "source", "rows", "due", "row", "k"]
def G_law14 : WS := (wSeq (wFor (.nm 1) (wRng1 (wC (.int 5)))
  (wSeq (wSet 2 (wCall sp_pool (wCons (wVar 0) (wCons (wVar 1) wNil))))
  (wSeq (wSet 3 (wLcM [6] (.nm 6) (wRng1 (wCall sp_take (wCons (wVar 2) (wCons (wC (.int 6)) wNil)))) wYes (wCB vTuple (wCons (wCall sp_law_hills (wCons (wCall sp_law_run (wCons (wVar 2) (wCons (wC (.int 6)) wNil))) wNil)) wNil))))
  (wSeq (wIf (wAnd (wTru (wVar 3)) (wCmpT vEq (wCall sp_take (wCons (wVar 2) (wCons (wC (.int 2)) wNil))) (wC (.int 0))))
   (wExpr (wBM "list" vAppend (wVar 3) (wCons (wCall sp_one (wCons (wVar 2) (wCons (wVar 3) wNil))) wNil))) wSkip)
  (wSeq (wFz 3 (wSet 4 (wCB vTuple (wCons (wCall sp_law_woven (wCons (wVar 3) wNil)) wNil))))
  (wSeq (wIf (wOr (wCmpT vNe (wCall sp_weave (wCons (wCB vTuple (wCons (wVar 3) wNil)) wNil)) (wVar 4)) (wOr (wCmpT vNe (wCall sp_weave (wCons (wTup wNil) wNil)) (wTup wNil)) (wCmpT vNe (wCall sp_weave (wCons (wTup (wCons (wTup wNil) (wCons (wTup wNil) wNil))) wNil)) (wTup wNil))))
   (wRet (wC (.bool false))) wSkip)
  (wSeq (wFor (.nm 5) (wItSeq (wVar 3))
   (wIf (wOr (wCmpT vNe (wCall sp_weave (wCons (wTup (wCons (wVar 5) wNil)) wNil)) (wVar 5)) (wCmpT vNe (wCall sp_weave (wCons (wTup (wCons (wTup wNil) (wCons (wVar 5) (wCons (wTup wNil) wNil)))) wNil)) (wVar 5)))
    (wRet (wC (.bool false))) wSkip))
  (wSeq (wIf (wOr (wCmpT vNe (wCall sp_weave (wCons (wTup (wCons (wVar 4) wNil)) wNil)) (wVar 4)) (wCmpT vNe (wCall sp_weave (wCons (wTup (wCons (wVar 4) (wCons (wVar 4) wNil))) wNil)) (wCB vTuple (wCons (wCall sp_law_woven (wCons (wLst (wCons (wVar 4) (wCons (wVar 4) wNil))) wNil)) wNil))))
   (wRet (wC (.bool false))) wSkip)
  (wIf (wAnd (wTru (wVar 3)) (wCmpT vNe (wCall sp_weave (wCons (wTup (wCons (wOp vIx (wVar 3) (wC (.int 0))) (wCons (wVar 4) wNil))) wNil)) (wCB vTuple (wCons (wCall sp_law_woven (wCons (wLst (wCons (wOp vIx (wVar 3) (wC (.int 0))) (wCons (wVar 4) wNil))) wNil)) wNil))))
   (wRet (wC (.bool false))) wSkip)))))))))
 (wRet (wC (.bool true))))

theorem pile_apart : ∀ (z : Int) (l : List Sg), pileF z (apartF z l) = l
  | _, [] => rfl
  | z, s :: l => by
    rw [apartF, pileF, show z + (s.b - z) = s.b by omega, show z + (s.a - z) = s.a by omega, pile_apart]
theorem apart_pile : ∀ (z : Int) (l : List Sg), apartF z (pileF z l) = l
  | _, [] => rfl
  | z, s :: l => by
    rw [pileF, apartF, apart_pile, show z + s.a - z = s.a by omega, show z + s.b - z = s.b by omega]
theorem apart_falls : ∀ (z : Int) (l : List Sg), Falls l → (apartF z l).Pairwise fun x y => fallLe x y = true
  | _, [], _ => .nil
  | z, s :: l, h => by
    rw [apartF]
    obtain ⟨h1, h2⟩ := List.pairwise_cons.mp h
    refine List.pairwise_cons.mpr ⟨fun y hy => ?_, apart_falls _ l h2⟩
    have key : ∀ (w : Int) (l : List Sg), (∀ t ∈ l, t.a < s.a ∧ s.b < t.b) → ∀ y ∈ apartF w l, s.b - s.a ≤ y.b - y.a := by
      intro w l
      induction l generalizing w with
      | nil => intro _ y hy; cases hy
      | cons t l ih =>
        intro ht y hy
        rw [apartF] at hy
        rcases List.mem_cons.mp hy with e | hy
        · rw [e]
          have := ht t List.mem_cons_self
          show s.b - s.a ≤ t.b - w - (t.a - w)
          omega
        · exact ih _ (fun u hu => ht u (List.mem_cons_of_mem _ hu)) y hy
    have := key _ l h1 y hy
    exact decide_eq_true (by dsimp only; omega)
theorem fallLe_total : PySem.W.TotalLe fallLe := ⟨fun a b c => by unfold fallLe; simp only [decide_eq_true_eq]; omega, fun a b => by unfold fallLe; simp only [decide_eq_true_eq]; omega⟩
theorem sorted_id {l : List Sg} (h : l.Pairwise fun x y => fallLe x y = true) : l.mergeSort fallLe = l := (PySem.W.sort_unique fallLe_total h fun _ => rfl).symm
theorem weave_one {l : List Sg} (h : Falls l) : weaveF [l] = l := by
  unfold weaveF sortF
  rw [List.map_singleton, List.flatten_singleton, sorted_id (apart_falls 0 l h), pile_apart]
theorem weave_pad {l : List Sg} (h : Falls l) : weaveF [[], l, []] = l := by
  unfold weaveF sortF
  rw [show ([[], l, []].map (apartF 0)).flatten = apartF 0 l by simp [apartF], sorted_id (apart_falls 0 l h), pile_apart]
theorem weave_again (rows : List (List Sg)) : weaveF [weaveF rows] = weaveF rows := by
  have e : ∀ r : List (List Sg), weaveF r = pileF 0 (sortF r) := fun _ => rfl
  rw [e [weaveF rows]]
  have : sortF [weaveF rows] = sortF rows := by
    rw [sortF, List.map_singleton, List.flatten_singleton, e rows, apart_pile, sorted_id]
    exact PySem.W.sort_pairwise fallLe_total _
  rw [this]
  rfl
theorem pile_mem : ∀ (z : Int) (l : List Sg), ∀ x ∈ pileF z l, ∃ y ∈ l, x.s = y.s
  | _, [], x, h => by cases h
  | z, s :: l, x, h => by
    rw [pileF] at h
    rcases List.mem_cons.mp h with e | h
    · exact ⟨s, List.mem_cons_self, by rw [e]⟩
    · obtain ⟨y, hy, e⟩ := pile_mem _ l x h
      exact ⟨y, List.mem_cons_of_mem _ hy, e⟩
theorem weave_mem {rows : List (List Sg)} {x : Sg} (h : x ∈ weaveF rows) : ∃ y ∈ rows.flatten, x.s = y.s := by
  obtain ⟨y, hy, e⟩ := pile_mem 0 _ x h
  have hy2 := (List.mergeSort_perm _ fallLe).mem_iff.mp hy
  obtain ⟨l', hl', hx⟩ := List.mem_flatten.mp hy2
  obtain ⟨l, hl, rfl⟩ := List.mem_map.mp hl'
  obtain ⟨u, hu, e2⟩ := apart_mem 0 l _ hx
  exact ⟨u, List.mem_flatten.mpr ⟨l, hl, hu⟩, e.trans e2⟩
theorem weave_len (rows : List (List Sg)) : (weaveF rows).length = rows.flatten.length := by
  unfold weaveF
  rw [pile_len, sort_len]
theorem weave_none {rows : List (List Sg)} (h : rows.flatten = []) : weaveF rows = [] := List.length_eq_zero_iff.mp (by rw [weave_len, h]; rfl)
/-- whole numbers as steps -/
def IntS (l : List Sg) : Prop := ∀ s ∈ l, allInt s.s
theorem IntS.flat {l : List Sg} (h : IntS l) : FlatS l := fun s hs d hd => by
  obtain ⟨ns, e⟩ := h s hs
  rw [e] at hd
  obtain ⟨a, _, rfl⟩ := List.mem_map.mp hd
  exact ⟨shN_int, rfl⟩
theorem IntS.rows {rows : List (List Sg)} (h : ∀ l ∈ rows, IntS l) : IntS rows.flatten := fun s hs => by
  obtain ⟨l, hl, hx⟩ := List.mem_flatten.mp hs
  exact h l hl s hx
theorem IntS.alike {rows : List (List Sg)} (h : IntS rows.flatten) : AlikeS rows := fun s hs t ht => by
  obtain ⟨ns, e⟩ := h s hs
  obtain ⟨ms, e2⟩ := h t ht
  rw [e, e2]
  exact ⟨PySem.W.alike_ints ns ms, by rw [PySem.W.depth_ints]; decide⟩
theorem IntS.weave {rows : List (List Sg)} (h : IntS rows.flatten) : IntS (weaveF rows) := fun s hs => by
  obtain ⟨y, hy, e⟩ := weave_mem hs
  rw [e]
  exact h y hy
theorem allInt_iff {xs : List PyData} : allInt xs ↔ ∀ d ∈ xs, ∃ n : Int, d = .int n := by
  constructor
  · rintro ⟨ns, rfl⟩ d hd
    obtain ⟨n, _, rfl⟩ := List.mem_map.mp hd
    exact ⟨n, rfl⟩
  · intro h
    induction xs with
    | nil => exact ⟨[], rfl⟩
    | cons x xs ih =>
      obtain ⟨n, rfl⟩ := h x List.mem_cons_self
      obtain ⟨ns, rfl⟩ := ih fun d hd => h d (List.mem_cons_of_mem _ hd)
      exact ⟨n :: ns, rfl⟩
theorem IntS.hills {l : List Sg} (h : IntS l) : IntS (hillsF l) := fun s hs => allInt_iff.mpr fun d hd => by
  have hm : d ∈ stepsF (hillsF l) := List.mem_flatten.mpr ⟨s.s, List.mem_map.mpr ⟨s, hs, rfl⟩, hd⟩
  rw [hillsF_steps] at hm
  obtain ⟨xs, h1, h2⟩ := List.mem_flatten.mp hm
  obtain ⟨t, ht, rfl⟩ := List.mem_map.mp h1
  exact allInt_iff.mp (h t ht) d h2
structure HRow (r : List Sg) : Prop where
  len : r.length ≤ 6
  st : IntS r
  fall : Falls r
theorem Drawn.row {l : List Sg} (h : Drawn 6 l) : HRow (hillsF l) := ⟨Nat.le_trans (hillsF_le l) h.len, IntS.hills fun s hs => (h.st s hs).1, hills_falls l⟩
theorem flat_bound {rows : List (List Sg)} (h : ∀ r ∈ rows, r.length ≤ 6) : rows.flatten.length ≤ 6 * rows.length := by
  induction rows with
  | nil => exact Nat.le_refl _
  | cons r rows ih =>
    rw [List.flatten_cons, List.length_append, List.length_cons]
    have := h r List.mem_cons_self
    have := ih fun x hx => h x (List.mem_cons_of_mem _ hx)
    omega
section
variable {S : Sto} {k : KE}
theorem v_neR {l : List Sg} (h : IntS l) (q : k (.d (.bool false)) S) : vNe (.d (rowD l)) (.d (rowD l)) S k := v_neS (sh_row h.flat) (ok_nb _ (nb_row h.flat)) q
end
theorem keeps_law14 : Keeps N_law14 sp_law14 G_law14 := by
  rintro ns ws S hl ⟨rfl, rfl, hns⟩
  have key : ∀ (W : XQ) (dn : DN), (∀ T, dn.rt (.d (.bool true)) T) → G_law14 W dn (startE N_law14 [scr ns]) [] := by
    intro W dn hr
    (unfold G_law14 N_law14; simp only [startE, List.map_cons, List.map_nil, List.length_cons, List.length_nil, List.cons_append, List.nil_append, Nat.reduceAdd, Nat.reduceSub, List.replicate_succ, List.replicate_zero])
    walk_at "dl"
    refine turns_rng (fun i en S => ∃ (x1 x2 x3 x4 x5 x6 : Option Val), en = [some (scr ns), x1, x2, x3, x4, x5, x6]) (fun _ _ _ _ => True.intro) ?_ ?_ ⟨_, _, _, _, _, _, rfl⟩
    · rintro i en S hi ⟨x1, x2, x3, x4, x5, x6, rfl⟩
      have hi7 : i < 5 := hi
      refine ⟨_, tg_eq, fun nx hn => ?_⟩
      walk_at "dl"
      rw [show ((0 : Int) + (i : Nat)) = (i : Nat) by omega]
      refine call_pool (by omega) fun o ho => ?_
      walk_at "dl"
      refine call_take fun cnt o1 c1 c2 s1 => ?_
      walk_at "dl"
      obtain ⟨cn, rfl⟩ := Int.eq_ofNat_of_zero_le c1
      refine lc_inv (fun j : Nat => Val.d (.int (0 + (j : Nat)))) (List.range ((cn : Int) - 0).toNat) (fun l acc T => ∃ o L, T = S ++ [o] ∧ Src o ∧ acc = (L.map rowD).map Val.d ∧ L.length = l.length ∧ ∀ r ∈ L, HRow r) (fun _ _ _ _ => True.intro) ?_ ?_ ⟨o1, [], rfl, s1, rfl, rfl, fun r h => (by cases h)⟩
      · rintro l j r acc T el ⟨o2, L, rfl, s2, rfl, hL, hR⟩
        refine ⟨_, tg_eq, fun k' hk => ?_⟩
        have hlr := congrArg List.length el
        rw [List.length_range, List.length_append, List.length_cons] at hlr
        walk_at "dl"
        refine call_run (n := 6) fun w o3 hw s3 => ?_
        walk_at "dl"
        refine call_lawhillsT (hw.fit (by omega)) ?_
        walk_at "dl"
        refine ⟨by simp; omega, hk _ _ ⟨o3, L ++ [hillsF w], rfl, s3, by simp, by simp [hL], fun r hr => ?_⟩⟩
        rcases List.mem_append.mp hr with hr | hr
        · exact hR r hr
        · rw [List.mem_singleton.mp hr]
          exact hw.row
      rintro acc T ⟨o2, L, rfl, s2, rfl, hL, hR⟩
      rw [List.length_range] at hL
      walk_at "dn"
      rw [show (S ++ [o2]).length = S.length + 1 by simp]
      refine i_seqJ fun R hR2 => ?_
      have fin : ∀ (o : Ob) (L : List (List Sg)), Src o → L.length ≤ 6 → (∀ r ∈ L, HRow r) → R [some (scr ns), some (.d (.int (i : Nat))), some (.r S.length), some (.r (S.length + 1)), x4, x5, x6] (S ++ [o] ++ [.lst ((L.map rowD).map Val.d)]) := by
        intro o L ho hl6 hR
        rw [hR2]
        have hfb := flat_bound fun r hr => (hR r hr).len
        have hint : IntS L.flatten := IntS.rows fun r hr => (hR r hr).st
        have hw : Wv L := ⟨by omega, by omega⟩
        have hdi : IntS (weaveF L) := hint.weave
        have hdl := weave_len L
        walk_at "dl"
        refine call_law_woven (b := true) (b2 := false) ⟨hw, hint.alike⟩ ?_
        walk_at "dl"
        refine call_weaveT hw ?_
        walk_at "dl"
        refine v_neR hdi ?_
        walk_at "dl"
        refine call_weaveT (rows := []) ⟨by decide, by decide⟩ ?_
        rw [weave_none (rows := []) rfl]
        walk_at "dl"
        refine v_neR (l := []) (fun s h => by cases h) ?_
        walk_at "dl"
        refine call_weaveT (rows := [[], []]) ⟨by decide, by decide⟩ ?_
        rw [weave_none (rows := [[], []]) rfl]
        walk_at "dl"
        refine v_neR (l := []) (fun s h => by cases h) ?_
        walk_at "dl"
        refine turns_map rowD L (fun p en T => ∃ x5, en = [some (scr ns), some (.d (.int (i : Nat))), some (.r S.length), some (.d (.list (L.map rowD))), some (.d (rowD (weaveF L))), x5, x6] ∧ T = S ++ [o] ++ [.dead]) (fun _ _ _ _ => True.intro) ?_ ?_ ⟨_, rfl, rfl⟩
        · rintro p r q en T el ⟨x5, rfl, rfl⟩
          have hr := hR r (by rw [el]; simp)
          have hrl := hr.len
          refine ⟨_, tg_eq, fun nx hn => ?_⟩
          walk_at "dl"
          refine call_weaveT (rows := [r]) ⟨by simp, by simp; omega⟩ ?_
          rw [weave_one hr.fall]
          walk_at "dl"
          refine v_neR hr.st ?_
          walk_at "dl"
          refine call_weaveT (rows := [[], r, []]) ⟨by simp, by simp; omega⟩ ?_
          rw [weave_pad hr.fall]
          walk_at "dl"
          refine v_neR hr.st ?_
          walk_at "dl"
          exact hn _ _ ⟨_, rfl, rfl⟩
        rintro en T ⟨x5, rfl, rfl⟩
        walk_at "dl"
        refine call_weaveT (rows := [weaveF L]) ⟨by simp, by simp; omega⟩ ?_
        rw [weave_again]
        walk_at "dl"
        refine v_neR hdi ?_
        walk_at "dl"
        have hi2 : IntS ([weaveF L, weaveF L] : List (List Sg)).flatten := IntS.rows fun r hr => by
          simp at hr
          rw [hr]
          exact hdi
        refine call_weaveT (rows := [weaveF L, weaveF L]) ⟨by simp, by simp; omega⟩ ?_
        walk_at "dl"
        refine call_law_woven (b := true) (b2 := false) (rows := [weaveF L, weaveF L]) ⟨⟨by simp, by simp; omega⟩, hi2.alike⟩ ?_
        walk_at "dl"
        refine v_neR hi2.weave ?_
        walk_at "dl"
        refine i_ite (fun e => ?_) (fun e => ?_)
        · cases L with
          | nil => cases e
          | cons r L =>
            have hr := hR r List.mem_cons_self
            have hrl := hr.len
            have hi3 : IntS ([r, weaveF (r :: L)] : List (List Sg)).flatten := IntS.rows fun x hx => by
              rcases List.mem_cons.mp hx with e | hx
              · rw [e]; exact hr.st
              · rw [List.mem_singleton.mp hx]; exact hdi
            walk_at "dl"
            refine v_ixLm (n := 0) rfl rfl ?_
            walk_at "dl"
            refine call_weaveT (rows := [r, weaveF (r :: L)]) ⟨by simp, by simp; omega⟩ ?_
            walk_at "dl"
            refine v_ixLm (n := 0) rfl rfl ?_
            walk_at "dl"
            refine call_law_woven (b := true) (b2 := false) (rows := [r, weaveF (r :: L)]) ⟨⟨by simp, by simp; omega⟩, hi3.alike⟩ ?_
            walk_at "dl"
            refine v_neR hi3.weave ?_
            walk_at "dl"
            exact hn _ _ ⟨_, _, _, _, _, _, rfl⟩
        · walk_at "dl"
          exact hn _ _ ⟨_, _, _, _, _, _, rfl⟩
      walk_at "dl"
      refine i_ite (fun e => ?_) (fun e => ?_)
      · have hne : L ≠ [] := by
          intro z
          rw [z] at e
          cases e
        have hLn : L.length ≤ 5 := by omega
        walk_at "dl"
        refine call_take fun t o3 _ _ s3 => ?_
        walk_at "dl"
        refine i_ite (fun e => ?_) (fun e => ?_)
        · walk_at "dl"
          refine call_oneMl (i := S.length) (j := S.length + 1) (l := L.map rowD) (by omega) ⟨by simpa using hne, by simp; omega⟩ fun d o4 hd s4 => ?_
          obtain ⟨r, hr, rfl⟩ := List.mem_map.mp hd
          walk_at "dl"
          have := fin o4 (L ++ [r]) s4 (by simp; omega) fun x hx => by
            rcases List.mem_append.mp hx with hx | hx
            · exact hR x hx
            · rw [List.mem_singleton.mp hx]; exact hR r hr
          simpa using this
        · walk_at "dl"
          exact fin o3 L s3 (by omega) hR
      · walk_at "dl"
        exact fin o2 L s2 (by omega) hR
    · rintro en S ⟨x1, x2, x3, x4, x5, x6, rfl⟩
      walk_at "dl"
      exact hr _
  refine key _ _ fun T => ⟨⟨?_, True.intro⟩, rfl⟩
  rfl
end DL

set_option Elab.async false
set_option linter.all false
set_option maxRecDepth 100000
set_option maxHeartbeats 4000000
namespace DL.L14
open PySem PySem.Spec PyProof.Rows L2 DL
def topS (i : Nat) : Stmt := PySem.Challenge.pw_hillrooms_k14_rows_woven.main.body.getD i (.Pass ⟨0, 0, 0, 0⟩)
section
variable {P : Program} {w : World} {K : PySem.W.Frag} {mg : Str → Option Value} {base : Heap} {k : Nat}

abbrev s__law_pool : Stmt := topS 4
theorem sc__law_pool : FnScope N_pool ["script", "k"] (defScope s__law_pool) := ⟨rfl, rfl, rfl, by decide +kernel, rfl, by decide +kernel, by decide +kernel⟩
theorem b__law_pool (z_len : mg "len" = none) (z_int : mg "int" = none) (z_max : mg "max" = none) : Body P w K mg base k "_law_pool" s__law_pool N_pool G_pool := fun f cdv A outer s H E hr =>
 (dss_cons (ds_set sc__law_pool.nd rfl (by first | exact Or.inl rfl | exact Or.inr rfl) de_int)
 (dss_cons (ds_if (tc od_lt (v 1) (cb_len z_len (da_cons (v 0) da_nil)) (nomark _))
  (dss_one (ds_set sc__law_pool.nd rfl (by first | exact Or.inl rfl | exact Or.inr rfl) (de_ix (ru1 hr) (v 0) (v 1)))) (dss_one (ds_if (dt_tru (v 0))
   (dss_one (ds_set sc__law_pool.nd rfl (by first | exact Or.inl rfl | exact Or.inr rfl) (de_ix (ru1 hr) (v 0) de_int))) dss_nil)))
 (dss_cons (ds_set sc__law_pool.nd rfl (by first | exact Or.inl rfl | exact Or.inr rfl) (cb_max2 rfl z_max (da_cons (cb_int z_int (da_cons (v 2) da_nil)) (da_cons (cb_int z_int (da_cons (de_bin od_sub (de_neg de_int) (v 2)) da_nil)) da_nil))))
 (dss_cons (ds_set sc__law_pool.nd rfl (by first | exact Or.inl rfl | exact Or.inr rfl) (de_bin od_mod (cb_int z_int (da_cons (de_bin od_mul (de_bin od_add (de_bin od_add (de_bin od_add (de_bin od_mod (cb_int z_int (da_cons (v 3) da_nil)) de_int) (de_bin od_mul (de_bin od_mul de_int (v 1)) (v 1))) (de_bin od_mul de_int (v 1))) de_int) de_int) da_nil)) de_int))
 (dss_one (ds_ret (de_lstM (da_cons (de_bin od_mul (v 3) (cb_int z_int (da_cons (de_cmp od_ge (v 3) (de_bin od_pow de_int de_int) (nomark _)) da_nil))) (da_cons (v 4) da_nil)))))))))

abbrev s__law_take : Stmt := topS 5
theorem sc__law_take : FnScope N_take ["source", "top"] (defScope s__law_take) := ⟨rfl, rfl, rfl, by decide +kernel, rfl, by decide +kernel, by decide +kernel⟩
theorem b__law_take (z_int : mg "int" = none) : Body P w K mg base k "_law_take" s__law_take N_take G_take := fun f cdv A outer s H E hr =>
 (dss_cons (ds_if (tc od_gt (de_ix (ru1 hr) (v 0) de_int) de_int (nomark _))
  (dss_cons (ds_set sc__law_take.nd rfl (by first | exact Or.inl rfl | exact Or.inr rfl) (de_bin od_mod (cb_int z_int (da_cons (de_ix (ru1 hr) (v 0) de_int) da_nil)) (v 1)))
  (dss_cons (ds_store (ru1 hr) (v 0) de_int (de_bin od_fdiv (de_ix (ru1 hr) (v 0) de_int) (v 1)))
  (dss_one (ds_ret (v 2))))) dss_nil)
 (dss_cons (ds_store (ru1 hr) (v 0) de_int (de_bin od_mod (cb_int z_int (da_cons (de_bin od_add (de_bin od_mul (de_ix (ru1 hr) (v 0) de_int) de_int) de_int) da_nil)) de_int))
 (dss_one (ds_ret (de_bin od_mod (cb_int z_int (da_cons (de_bin od_fdiv (de_bin od_mod (cb_int z_int (da_cons (de_bin od_mul (de_ix (ru1 hr) (v 0) de_int) (de_ix (ru1 hr) (v 0) de_int)) da_nil)) de_int) de_int) da_nil)) (v 1))))))

abbrev s__law_hills : Stmt := topS 8
theorem sc__law_hills : FnScope N_law_hills ["walk"] (defScope s__law_hills) := ⟨rfl, rfl, rfl, by decide +kernel, rfl, by decide +kernel, by decide +kernel⟩
theorem b__law_hills (z_range : mg "range" = none) (z_len : mg "len" = none) (z_max : mg "max" = none) (z_min : mg "min" = none) : Body P w K mg base k "_law_hills" s__law_hills N_law_hills G_law_hills := fun f cdv A outer s H E hr =>
 (dss_cons (ds_par rfl sc__law_hills.nd rfl rfl (by decide) rfl rfl (da_cons (de_lstM da_nil) (da_cons de_int da_nil)) (by rfl))
 (dss_cons (ds_for (passes_of rfl) rfl (di_range1 (by rfl) z_range (cb_len z_len (da_cons (v 0) da_nil))) (dg_nm sc__law_hills.nd rfl (by first | exact Or.inl rfl | exact Or.inr rfl))
  (dss_one (ds_if (tc od_lt (v 2) (cb_len z_len (da_cons (v 0) da_nil)) (nomark _))
   (dss_cons (ds_set sc__law_hills.nd rfl (by first | exact Or.inl rfl | exact Or.inr rfl) (de_slice (v 0) (do_some (v 2)) do_none))
   (dss_cons (ds_set sc__law_hills.nd rfl (by first | exact Or.inl rfl | exact Or.inr rfl) (cb_max1 rfl z_max (da_cons (de_lc rfl sc__law_hills.nd (di_seq (v 4)) (blkOk_by (own := [("step", 10)]) (by show blkC N_law_hills (defScope s__law_hills) _ _ = true; decide +kernel)) (fun _ _ _ _ _ => (dg_nm sc__law_hills.nd rfl (by first | exact Or.inl rfl | exact Or.inr rfl))) (fun _ _ _ _ _ => dts_nil) (fun _ _ _ _ _ => (de_ix (ru1 hr) (v 10) de_int))) da_nil)))
   (dss_cons (ds_set sc__law_hills.nd rfl (by first | exact Or.inl rfl | exact Or.inr rfl) (cb_max1 rfl z_max (da_cons (de_lc rfl sc__law_hills.nd (di_range1 (by rfl) z_range (cb_len z_len (da_cons (v 4) da_nil))) (blkOk_by (own := [("k", 11)]) (by show blkC N_law_hills (defScope s__law_hills) _ _ = true; decide +kernel)) (fun _ _ _ _ _ => (dg_nm sc__law_hills.nd rfl (by first | exact Or.inl rfl | exact Or.inr rfl))) (fun _ _ _ _ _ => (dts_one (tc (od_eq (ru hr)) (de_ix (ru1 hr) (de_ix (ru1 hr) (v 4) (v 11)) de_int) (v 5) (nomark _)))) (fun _ _ _ _ _ => (v 11))) da_nil)))
   (dss_cons (ds_set sc__law_hills.nd rfl (by first | exact Or.inl rfl | exact Or.inr rfl) (cb_min1 rfl z_min (da_cons (de_lc rfl sc__law_hills.nd (di_seq (de_slice (v 4) (do_some (v 6)) do_none)) (blkOk_by (own := [("step", 10)]) (by show blkC N_law_hills (defScope s__law_hills) _ _ = true; decide +kernel)) (fun _ _ _ _ _ => (dg_nm sc__law_hills.nd rfl (by first | exact Or.inl rfl | exact Or.inr rfl))) (fun _ _ _ _ _ => dts_nil) (fun _ _ _ _ _ => (de_ix (ru1 hr) (v 10) de_int))) da_nil)))
   (dss_cons (ds_set sc__law_hills.nd rfl (by first | exact Or.inl rfl | exact Or.inr rfl) (cb_max1 rfl z_max (da_cons (de_lc rfl sc__law_hills.nd (di_range2 (by rfl) z_range (v 6) (cb_len z_len (da_cons (v 4) da_nil))) (blkOk_by (own := [("k", 11)]) (by show blkC N_law_hills (defScope s__law_hills) _ _ = true; decide +kernel)) (fun _ _ _ _ _ => (dg_nm sc__law_hills.nd rfl (by first | exact Or.inl rfl | exact Or.inr rfl))) (fun _ _ _ _ _ => (dts_one (tc (od_eq (ru hr)) (de_ix (ru1 hr) (de_ix (ru1 hr) (v 4) (v 11)) de_int) (v 7) (nomark _)))) (fun _ _ _ _ _ => (v 11))) da_nil)))
   (dss_cons (ds_set sc__law_hills.nd rfl (by first | exact Or.inl rfl | exact Or.inr rfl) (de_tup da_nil))
   (dss_cons (ds_for (passes_of rfl) rfl (di_seq (de_slice (v 4) do_none (do_some (de_bin od_add (v 8) de_int)))) (dg_nm sc__law_hills.nd rfl (by first | exact Or.inl rfl | exact Or.inr rfl))
    (dss_one (ds_set sc__law_hills.nd rfl (by first | exact Or.inl rfl | exact Or.inr rfl) (de_bin od_add (v 9) (de_ix (ru1 hr) (v 10) de_int)))))
   (dss_cons (ds_expr (de_append (v 1) (da_cons (de_tup (da_cons (v 5) (da_cons (v 7) (da_cons (v 9) da_nil)))) da_nil)))
   (dss_one (ds_aug sc__law_hills.nd rfl (by first | exact Or.inl rfl | exact Or.inr rfl) (de_bin od_add (v 8) de_int) iop_any la_any)))))))))) dss_nil)))
 (dss_one (ds_ret (de_frz (v 1))))))

abbrev s__law_one : Stmt := topS 6
theorem sc__law_one : FnScope N_one ["source", "things"] (defScope s__law_one) := ⟨rfl, rfl, rfl, by decide +kernel, rfl, by decide +kernel, by decide +kernel⟩
theorem b__law_one (z_len : mg "len" = none) (o__law_take : Own P w K mg base k "_law_take" sp_take) : Body P w K mg base k "_law_one" s__law_one N_one G_one := fun f cdv A outer s H E hr =>
 (dss_one (ds_ret (de_ix (ru1 hr) (v 1) (oc o__law_take hr (da_cons (v 0) (da_cons (cb_len z_len (da_cons (v 1) da_nil)) da_nil))))))

abbrev s__law_run : Stmt := topS 7
theorem sc__law_run : FnScope N_law_run ["source", "most"] (defScope s__law_run) := ⟨rfl, rfl, rfl, by decide +kernel, rfl, by decide +kernel, by decide +kernel⟩
theorem b__law_run (z_range : mg "range" = none) (z_tuple : mg "tuple" = none) (o__law_take : Own P w K mg base k "_law_take" sp_take) (o__law_one : Own P w K mg base k "_law_one" sp_one) : Body P w K mg base k "_law_run" s__law_run N_law_run G_law_run := fun f cdv A outer s H E hr =>
 (dss_cons (ds_par3 rfl sc__law_run.nd rfl rfl rfl (by decide) (by decide) (by decide) rfl rfl rfl (da_cons (oc o__law_take hr (da_cons (v 0) (da_cons (de_bin od_add (v 1) de_int) da_nil))) (da_cons (oc o__law_one hr (da_cons (v 0) (da_cons (de_lst (da_cons de_int (da_cons de_int (da_cons de_int (da_cons (de_bin od_pow de_int de_int) da_nil))))) da_nil))) (da_cons (de_cmp (od_eq (ru hr)) (oc o__law_take hr (da_cons (v 0) (da_cons de_int da_nil))) de_int (nomark _)) da_nil))) (by rfl))
 (dss_cons (ds_par3 rfl sc__law_run.nd rfl rfl rfl (by decide) (by decide) (by decide) rfl rfl rfl (da_cons (de_bin od_add (de_bin od_add (de_bin od_mul de_int (v 2)) de_int) (oc o__law_take hr (da_cons (v 0) (da_cons de_int da_nil)))) (da_cons de_int (da_cons (de_lstM da_nil) da_nil))) (by rfl))
 (dss_cons (ds_for (passes_of rfl) rfl (di_range1 (by rfl) z_range (v 2)) (dg_nm sc__law_run.nd rfl (by first | exact Or.inl rfl | exact Or.inr rfl))
  (dss_cons (ds_set sc__law_run.nd rfl (by first | exact Or.inl rfl | exact Or.inr rfl) (de_bin od_sub (v 5) (oc o__law_take hr (da_cons (v 0) (da_cons de_int da_nil)))))
  (dss_cons (ds_set sc__law_run.nd rfl (by first | exact Or.inl rfl | exact Or.inr rfl) (de_bin od_add (v 6) (oc o__law_take hr (da_cons (v 0) (da_cons de_int da_nil)))))
  (dss_cons (ds_set sc__law_run.nd rfl (by first | exact Or.inl rfl | exact Or.inr rfl) (de_bin od_sub (v 5) (de_bin od_mul (oc o__law_take hr (da_cons (v 0) (da_cons de_int da_nil))) (oc o__law_take hr (da_cons (v 0) (da_cons de_int da_nil))))))
  (dss_cons (ds_set sc__law_run.nd rfl (by first | exact Or.inl rfl | exact Or.inr rfl) (de_bin od_add (v 6) (de_bin od_mul (oc o__law_take hr (da_cons (v 0) (da_cons de_int da_nil))) (oc o__law_take hr (da_cons (v 0) (da_cons de_int da_nil))))))
  (dss_cons (ds_if (dt_tru (v 4))
   (dss_one (ds_par rfl sc__law_run.nd rfl rfl (by decide) rfl rfl (da_cons (oc o__law_take hr (da_cons (v 0) (da_cons de_int da_nil))) (da_cons (oc o__law_take hr (da_cons (v 0) (da_cons de_int da_nil))) da_nil)) (by rfl))) dss_nil)
  (dss_cons (ds_set sc__law_run.nd rfl (by first | exact Or.inl rfl | exact Or.inr rfl) (cb_tuple z_tuple (da_cons (de_lc rfl sc__law_run.nd (di_range1 (by rfl) z_range (oc o__law_take hr (da_cons (v 0) (da_cons de_int da_nil)))) (blkOk_by (own := [("j", 12)]) (by show blkC N_law_run (defScope s__law_run) _ _ = true; decide +kernel)) (fun _ _ _ _ _ => (dg_nm sc__law_run.nd rfl (by first | exact Or.inl rfl | exact Or.inr rfl))) (fun _ _ _ _ _ => dts_nil) (fun _ _ _ _ _ => (de_bin od_add (de_bin od_mul de_int (v 8)) (v 12)))) da_nil)))
  (dss_one (ds_expr (de_append (v 7) (da_cons (de_tup (da_cons (de_bin od_mul (v 3) (v 9)) (da_cons (de_bin od_mul (v 3) (v 10)) (da_cons (v 11) da_nil)))) da_nil)))))))))))
 (dss_one (ds_ret (cb_tuple z_tuple (da_cons (v 7) da_nil)))))))

abbrev s__law_woven : Stmt := topS 9
theorem sc__law_woven : FnScope N_law_woven ["rows"] (defScope s__law_woven) := ⟨rfl, rfl, rfl, by decide +kernel, rfl, by decide +kernel, by decide +kernel⟩
theorem b__law_woven (z_range : mg "range" = none) (z_len : mg "len" = none) (z_sorted : mg "sorted" = none) : Body P w K mg base k "_law_woven" s__law_woven N_law_woven G_law_woven := fun f cdv A outer s H E hr =>
 (dss_cons (ds_set sc__law_woven.nd rfl (by first | exact Or.inl rfl | exact Or.inr rfl) (de_lstM da_nil))
 (dss_cons (ds_for (passes_of rfl) rfl (di_range1 (by rfl) z_range (cb_len z_len (da_cons (v 0) da_nil))) (dg_nm sc__law_woven.nd rfl (by first | exact Or.inl rfl | exact Or.inr rfl))
  (dss_cons (ds_set sc__law_woven.nd rfl (by first | exact Or.inl rfl | exact Or.inr rfl) de_int)
  (dss_one (ds_for (passes_of rfl) rfl (di_range1 (by rfl) z_range (cb_len z_len (da_cons (de_ix (ru1 hr) (v 0) (v 2)) da_nil))) (dg_nm sc__law_woven.nd rfl (by first | exact Or.inl rfl | exact Or.inr rfl))
   (dss_cons (ds_asg (de_ix (ru1 hr) (de_ix (ru1 hr) (v 0) (v 2)) (v 4)) (dg_tp rfl (dgs_cons (dg_nm sc__law_woven.nd rfl (by first | exact Or.inl rfl | exact Or.inr rfl)) (dgs_cons (dg_nm sc__law_woven.nd rfl (by first | exact Or.inl rfl | exact Or.inr rfl)) (dgs_cons (dg_nm sc__law_woven.nd rfl (by first | exact Or.inl rfl | exact Or.inr rfl)) dgs_nil)))))
   (dss_cons (ds_expr (de_append (v 1) (da_cons (de_tup (da_cons (de_bin od_sub (v 6) (v 5)) (da_cons (v 2) (da_cons (v 4) (da_cons (de_bin od_sub (v 5) (v 3)) (da_cons (de_bin od_sub (v 6) (v 3)) (da_cons (v 7) da_nil))))))) da_nil)))
   (dss_one (ds_set sc__law_woven.nd rfl (by first | exact Or.inl rfl | exact Or.inr rfl) (v 6)))))))))
 (dss_cons (ds_par rfl sc__law_woven.nd rfl rfl (by decide) rfl rfl (da_cons (de_lstM da_nil) (da_cons de_int da_nil)) (by rfl))
 (dss_cons (ds_for (passes_of rfl) rfl (di_seq (cb_sorted (ru hr) z_sorted (da_cons (v 1) da_nil))) (dg_tp rfl (dgs_cons (dg_nm sc__law_woven.nd rfl (by first | exact Or.inl rfl | exact Or.inr rfl)) (dgs_cons (dg_nm sc__law_woven.nd rfl (by first | exact Or.inl rfl | exact Or.inr rfl)) (dgs_cons (dg_nm sc__law_woven.nd rfl (by first | exact Or.inl rfl | exact Or.inr rfl)) (dgs_cons (dg_nm sc__law_woven.nd rfl (by first | exact Or.inl rfl | exact Or.inr rfl)) (dgs_cons (dg_nm sc__law_woven.nd rfl (by first | exact Or.inl rfl | exact Or.inr rfl)) (dgs_cons (dg_nm sc__law_woven.nd rfl (by first | exact Or.inl rfl | exact Or.inr rfl)) dgs_nil)))))))
  (dss_cons (ds_expr (de_append (v 8) (da_cons (de_tup (da_cons (de_bin od_add (v 9) (v 5)) (da_cons (de_bin od_add (v 9) (v 6)) (da_cons (v 7) da_nil)))) da_nil)))
  (dss_one (ds_aug sc__law_woven.nd rfl (by first | exact Or.inl rfl | exact Or.inr rfl) (v 6) iop_any la_any))))
 (dss_one (ds_ret (de_frz (v 8))))))))

abbrev s_apart : Stmt := topS 1
theorem sc_apart : FnScope N_apart ["row"] (defScope s_apart) := ⟨rfl, rfl, rfl, by decide +kernel, rfl, by decide +kernel, by decide +kernel⟩
theorem b_apart  : Body P w K mg base k "apart" s_apart N_apart G_apart := fun f cdv A outer s H E hr =>
 (dss_cons (ds_set sc_apart.nd rfl (by first | exact Or.inl rfl | exact Or.inr rfl) (de_lstM da_nil))
 (dss_cons (ds_set sc_apart.nd rfl (by first | exact Or.inl rfl | exact Or.inr rfl) de_int)
 (dss_cons (ds_for (passes_of rfl) rfl (di_seq (v 0)) (dg_tp rfl (dgs_cons (dg_nm sc_apart.nd rfl (by first | exact Or.inl rfl | exact Or.inr rfl)) (dgs_cons (dg_nm sc_apart.nd rfl (by first | exact Or.inl rfl | exact Or.inr rfl)) (dgs_cons (dg_nm sc_apart.nd rfl (by first | exact Or.inl rfl | exact Or.inr rfl)) dgs_nil))))
  (dss_cons (ds_expr (de_append (v 1) (da_cons (de_tup (da_cons (de_bin od_sub (v 3) (v 2)) (da_cons (de_bin od_sub (v 4) (v 2)) (da_cons (v 5) da_nil)))) da_nil)))
  (dss_one (ds_set sc_apart.nd rfl (by first | exact Or.inl rfl | exact Or.inr rfl) (v 4)))))
 (dss_one (ds_ret (de_frz (v 1)))))))

abbrev s_weave : Stmt := topS 2
theorem sc_weave : FnScope N_weave ["rows"] (defScope s_weave) := ⟨rfl, rfl, rfl, by decide +kernel, rfl, by decide +kernel, by decide +kernel⟩
theorem b_weave (z_sorted : mg "sorted" = none) (z_tuple : mg "tuple" = none) (o_apart : Own P w K mg base k "apart" sp_apart) : BodyC P w K mg base k "weave" s_weave N_weave G_weave := fun f c A outer s H E lc hr =>
 (dss_cons (ds_setLc2 rfl sc_weave.nd rfl rfl (sw_true rfl rfl rfl rfl) (di_seq (v 0)) (blkOk_by (own := [("row", 7), ("segment", 8)]) (by show blkC N_weave (defScope s_weave) _ _ = true; decide +kernel)) (by decide) (fun _ _ _ _ _ => (dg_nm sc_weave.nd rfl (by first | exact Or.inl rfl | exact Or.inr rfl))) (fun _ _ _ _ _ => dts_nil) (fun _ _ _ _ _ => (di_seq (oc o_apart hr (da_cons (v 7) da_nil)))) (fun _ _ _ _ _ => (dg_nm sc_weave.nd rfl (by first | exact Or.inl rfl | exact Or.inr rfl))) (fun _ _ _ _ _ => dts_nil) (fun _ _ _ _ _ => (v 8)))
 (dss_cons (ds_set sc_weave.nd rfl (by first | exact Or.inl rfl | exact Or.inr rfl) (de_lstM da_nil))
 (dss_cons (ds_set sc_weave.nd rfl (by first | exact Or.inl rfl | exact Or.inr rfl) de_int)
 (dss_cons (ds_for (passes_of rfl) rfl (di_seq (de_sortSeg z_sorted hr (v 1) rfl lc rfl rfl (by intros; rfl) rfl rfl rfl (by decide) rfl (by decide) (by intro _; rfl) (by decide))) (dg_tp rfl (dgs_cons (dg_nm sc_weave.nd rfl (by first | exact Or.inl rfl | exact Or.inr rfl)) (dgs_cons (dg_nm sc_weave.nd rfl (by first | exact Or.inl rfl | exact Or.inr rfl)) (dgs_cons (dg_nm sc_weave.nd rfl (by first | exact Or.inl rfl | exact Or.inr rfl)) dgs_nil))))
  (dss_cons (ds_expr (de_append (v 2) (da_cons (de_tup (da_cons (de_bin od_add (v 3) (v 4)) (da_cons (de_bin od_add (v 3) (v 5)) (da_cons (v 6) da_nil)))) da_nil)))
  (dss_one (ds_aug sc_weave.nd rfl (by first | exact Or.inl rfl | exact Or.inr rfl) (v 5) iop_any la_any))))
 (dss_one (ds_ret (cb_tuple z_tuple (da_cons (v 2) da_nil))))))))

abbrev s_law : Stmt := topS 10
theorem sc_law : FnScope N_law14 ["script"] (defScope s_law) := ⟨rfl, rfl, rfl, by decide +kernel, rfl, by decide +kernel, by decide +kernel⟩
theorem b_law (z_range : mg "range" = none) (z_tuple : mg "tuple" = none) (o__law_pool : Own P w K mg base k "_law_pool" sp_pool) (o__law_take : Own P w K mg base k "_law_take" sp_take) (o__law_hills : Own P w K mg base k "_law_hills" sp_law_hills) (o__law_run : Own P w K mg base k "_law_run" sp_law_run) (o__law_one : Own P w K mg base k "_law_one" sp_one) (o__law_woven : Own P w K mg base k "_law_woven" sp_law_woven) (o_weave : Own P w K mg base k "weave" sp_weave) : Body P w K mg base k "law" s_law N_law14 G_law14 := fun f cdv A outer s H E hr =>
 (dss_cons (ds_for (passes_of rfl) rfl (di_range1 (by rfl) z_range de_int) (dg_nm sc_law.nd rfl (by first | exact Or.inl rfl | exact Or.inr rfl))
  (dss_cons (ds_set sc_law.nd rfl (by first | exact Or.inl rfl | exact Or.inr rfl) (oc o__law_pool hr (da_cons (v 0) (da_cons (v 1) da_nil))))
  (dss_cons (ds_setLc rfl sc_law.nd rfl rfl (sw_true rfl rfl rfl rfl) (di_range1 (by rfl) z_range (oc o__law_take hr (da_cons (v 2) (da_cons de_int da_nil)))) (blkOk_by (own := [("k", 6)]) (by show blkC N_law14 (defScope s_law) _ _ = true; decide +kernel)) (fun _ _ _ _ _ => (dg_nm sc_law.nd rfl (by first | exact Or.inl rfl | exact Or.inr rfl))) (fun _ _ _ _ _ => dts_nil) (fun _ _ _ _ _ => (cb_tuple z_tuple (da_cons (oc o__law_hills hr (da_cons (oc o__law_run hr (da_cons (v 2) (da_cons de_int da_nil))) da_nil)) da_nil))) lc_new)
  (dss_cons (ds_if (dw_and (dt_tru (v 3)) (dw_and1 (tc (od_eq (ru hr)) (oc o__law_take hr (da_cons (v 2) (da_cons de_int da_nil))) de_int (nomark _)))).dt
   (dss_one (ds_expr (de_append (v 3) (da_cons (oc o__law_one hr (da_cons (v 2) (da_cons (v 3) da_nil))) da_nil)))) dss_nil)
  (dss_cons (ds_fz (i := 3) (ds_set sc_law.nd rfl (by first | exact Or.inl rfl | exact Or.inr rfl) (cb_tuple z_tuple (da_cons (oc o__law_woven hr (da_cons (v 3) da_nil)) da_nil))))
  (dss_cons (ds_if (dw_or (tc (od_ne (ru hr)) (oc o_weave hr (da_cons (cb_tuple z_tuple (da_cons (v 3) da_nil)) da_nil)) (v 4) (nomark _)) (dw_or (tc (od_ne (ru hr)) (oc o_weave hr (da_cons (de_tup da_nil) da_nil)) (de_tup da_nil) (nomark _)) (dw_or1 (tc (od_ne (ru hr)) (oc o_weave hr (da_cons (de_tup (da_cons (de_tup da_nil) (da_cons (de_tup da_nil) da_nil))) da_nil)) (de_tup da_nil) (nomark _))))).dt
   (dss_one (ds_ret de_bl)) dss_nil)
  (dss_cons (ds_for (passes_of rfl) rfl (di_seq (v 3)) (dg_nm sc_law.nd rfl (by first | exact Or.inl rfl | exact Or.inr rfl))
   (dss_one (ds_if (dw_or (tc (od_ne (ru hr)) (oc o_weave hr (da_cons (de_tup (da_cons (v 5) da_nil)) da_nil)) (v 5) (nomark _)) (dw_or1 (tc (od_ne (ru hr)) (oc o_weave hr (da_cons (de_tup (da_cons (de_tup da_nil) (da_cons (v 5) (da_cons (de_tup da_nil) da_nil)))) da_nil)) (v 5) (nomark _)))).dt
    (dss_one (ds_ret de_bl)) dss_nil)))
  (dss_cons (ds_if (dw_or (tc (od_ne (ru hr)) (oc o_weave hr (da_cons (de_tup (da_cons (v 4) da_nil)) da_nil)) (v 4) (nomark _)) (dw_or1 (tc (od_ne (ru hr)) (oc o_weave hr (da_cons (de_tup (da_cons (v 4) (da_cons (v 4) da_nil))) da_nil)) (cb_tuple z_tuple (da_cons (oc o__law_woven hr (da_cons (de_lst (da_cons (v 4) (da_cons (v 4) da_nil))) da_nil)) da_nil)) (nomark _)))).dt
   (dss_one (ds_ret de_bl)) dss_nil)
  (dss_one (ds_if (dw_and (dt_tru (v 3)) (dw_and1 (tc (od_ne (ru hr)) (oc o_weave hr (da_cons (de_tup (da_cons (de_ix (ru1 hr) (v 3) de_int) (da_cons (v 4) da_nil))) da_nil)) (cb_tuple z_tuple (da_cons (oc o__law_woven hr (da_cons (de_lst (da_cons (de_ix (ru1 hr) (v 3) de_int) (da_cons (v 4) da_nil))) da_nil)) da_nil)) (nomark _)))).dt
   (dss_one (ds_ret de_bl)) dss_nil))))))))))
 (dss_one (ds_ret de_bl)))

end
end DL.L14

set_option Elab.async false
set_option linter.all false
set_option maxRecDepth 100000
set_option maxHeartbeats 4000000
namespace DL.L14
open PySem PySem.Spec PyProof.Rows L2 DL
section
variable {P : Program} {w : World} {K : PySem.W.Frag} {mg : Str → Option Value} {base : Heap}
theorem law_ok {f : Addr} {fd : FuncData} (d__law_pool : Dfn K mg "_law_pool" s__law_pool ["script", "k"]) (d__law_take : Dfn K mg "_law_take" s__law_take ["source", "top"]) (d__law_hills : Dfn K mg "_law_hills" s__law_hills ["walk"]) (d__law_one : Dfn K mg "_law_one" s__law_one ["source", "things"]) (d__law_run : Dfn K mg "_law_run" s__law_run ["source", "most"]) (d__law_woven : Dfn K mg "_law_woven" s__law_woven ["rows"]) (d_apart : Dfn K mg "apart" s_apart ["row"]) (d_weave : Dfn K mg "weave" s_weave ["rows"]) (z_len : mg "len" = none) (z_int : mg "int" = none) (z_max : mg "max" = none) (z_range : mg "range" = none) (z_min : mg "min" = none) (z_tuple : mg "tuple" = none) (z_sorted : mg "sorted" = none) (tbs : Tbs K mg base) (F : Fun K "law" "law" s_law f fd) : FnOk P w K mg base (L2.CX P w) (4) f fd ["script"] (liftSp K mg sp_law14) := by
  have o__law_pool : Own P w K mg base (1) "_law_pool" sp_pool := own_of (k := 0) d__law_pool sc__law_pool rfl (b__law_pool z_len z_int z_max) keeps_pool
  have o__law_take : Own P w K mg base (1) "_law_take" sp_take := own_of (k := 0) d__law_take sc__law_take rfl (b__law_take z_int) keeps_take
  have o__law_hills : Own P w K mg base (1) "_law_hills" sp_law_hills := own_of (k := 0) d__law_hills sc__law_hills rfl (b__law_hills z_range z_len z_max z_min) keeps_law_hills
  have o__law_one : Own P w K mg base (2) "_law_one" sp_one := own_of (k := 1) d__law_one sc__law_one rfl (b__law_one z_len (o__law_take.mono (by omega))) keeps_one
  have o__law_run : Own P w K mg base (3) "_law_run" sp_law_run := own_of (k := 2) d__law_run sc__law_run rfl (b__law_run z_range z_tuple (o__law_take.mono (by omega)) (o__law_one.mono (by omega))) keeps_law_run
  have o__law_woven : Own P w K mg base (1) "_law_woven" sp_law_woven := own_of (k := 0) d__law_woven sc__law_woven rfl (b__law_woven z_range z_len z_sorted) keeps_law_woven
  have o_apart : Own P w K mg base (1) "apart" sp_apart := own_of (k := 0) d_apart sc_apart rfl (b_apart ) keeps_apart
  have o_weave : Own P w K mg base (2) "weave" sp_weave := own_ofC (k := 1) d_weave sc_weave rfl (by decide) tbs (b_weave z_sorted z_tuple (o_apart.mono (by omega))) keeps_weave
  exact fd_of (k := 3) F sc_law rfl (fun cdv A outer s H E hr => b_law z_range z_tuple (o__law_pool.mono (by omega)) (o__law_take.mono (by omega)) (o__law_hills.mono (by omega)) (o__law_run.mono (by omega)) (o__law_one.mono (by omega)) (o__law_woven.mono (by omega)) (o_weave.mono (by omega)) f cdv A outer s H E hr) keeps_law14
end
theorem all_mk {l : PySem.W.OpenLaw} {w : World} {K : PySem.W.Frag} {h : Heap} {mg : Str → Option Value} {fa : Addr} (X : K.In h) (G : h.Ns mainGlobals mg) (hfa : mg "law" = some (.ref fa))
    {f1 f2 f3 f4 f5 f6 f7 f8 f9 : Addr} {od1 an1 od2 an2 od3 an3 od4 an4 od5 an5 od6 an6 od7 an7 od8 an8 od9 an9 : Option Addr} {sl1 sl2 sl3 sl4 sl5 sl6 sl7 sl8 sl9 : Array (Option Value)} {oc1 kV1 dc1 pm1 cd1 ct1 oc2 kV2 dc2 pm2 cd2 ct2 oc3 kV3 dc3 pm3 cd3 ct3 oc4 kV4 dc4 pm4 cd4 ct4 oc5 kV5 dc5 pm5 cd5 ct5 oc6 kV6 dc6 pm6 cd6 ct6 oc7 kV7 dc7 pm7 cd7 ct7 oc8 kV8 dc8 pm8 cd8 ct8 oc9 kV9 dc9 pm9 cd9 ct9 : Value}
    (a1 : PySem.W.nsIn K mainGlobals "_law_pool" = some (some (.ref f1))) (l1 : K.lookup f1 = some ⟨oc1, od1, .func (PySem.W.fnOf "_law_pool" "_law_pool" (defArgs s__law_pool) (defBody s__law_pool) (defScope s__law_pool) .none kV1 dc1 pm1 an1 cd1 ct1), sl1⟩) (c1 : PySem.W.codeIn K cd1 "_law_pool" = true) (k1 : PySem.W.keepIn K (.ref f1) = true)
    (a2 : PySem.W.nsIn K mainGlobals "_law_take" = some (some (.ref f2))) (l2 : K.lookup f2 = some ⟨oc2, od2, .func (PySem.W.fnOf "_law_take" "_law_take" (defArgs s__law_take) (defBody s__law_take) (defScope s__law_take) .none kV2 dc2 pm2 an2 cd2 ct2), sl2⟩) (c2 : PySem.W.codeIn K cd2 "_law_take" = true) (k2 : PySem.W.keepIn K (.ref f2) = true)
    (a3 : PySem.W.nsIn K mainGlobals "_law_hills" = some (some (.ref f3))) (l3 : K.lookup f3 = some ⟨oc3, od3, .func (PySem.W.fnOf "_law_hills" "_law_hills" (defArgs s__law_hills) (defBody s__law_hills) (defScope s__law_hills) .none kV3 dc3 pm3 an3 cd3 ct3), sl3⟩) (c3 : PySem.W.codeIn K cd3 "_law_hills" = true) (k3 : PySem.W.keepIn K (.ref f3) = true)
    (a4 : PySem.W.nsIn K mainGlobals "_law_one" = some (some (.ref f4))) (l4 : K.lookup f4 = some ⟨oc4, od4, .func (PySem.W.fnOf "_law_one" "_law_one" (defArgs s__law_one) (defBody s__law_one) (defScope s__law_one) .none kV4 dc4 pm4 an4 cd4 ct4), sl4⟩) (c4 : PySem.W.codeIn K cd4 "_law_one" = true) (k4 : PySem.W.keepIn K (.ref f4) = true)
    (a5 : PySem.W.nsIn K mainGlobals "_law_run" = some (some (.ref f5))) (l5 : K.lookup f5 = some ⟨oc5, od5, .func (PySem.W.fnOf "_law_run" "_law_run" (defArgs s__law_run) (defBody s__law_run) (defScope s__law_run) .none kV5 dc5 pm5 an5 cd5 ct5), sl5⟩) (c5 : PySem.W.codeIn K cd5 "_law_run" = true) (k5 : PySem.W.keepIn K (.ref f5) = true)
    (a6 : PySem.W.nsIn K mainGlobals "_law_woven" = some (some (.ref f6))) (l6 : K.lookup f6 = some ⟨oc6, od6, .func (PySem.W.fnOf "_law_woven" "_law_woven" (defArgs s__law_woven) (defBody s__law_woven) (defScope s__law_woven) .none kV6 dc6 pm6 an6 cd6 ct6), sl6⟩) (c6 : PySem.W.codeIn K cd6 "_law_woven" = true) (k6 : PySem.W.keepIn K (.ref f6) = true)
    (a7 : PySem.W.nsIn K mainGlobals "apart" = some (some (.ref f7))) (l7 : K.lookup f7 = some ⟨oc7, od7, .func (PySem.W.fnOf "apart" "apart" (defArgs s_apart) (defBody s_apart) (defScope s_apart) .none kV7 dc7 pm7 an7 cd7 ct7), sl7⟩) (c7 : PySem.W.codeIn K cd7 "apart" = true) (k7 : PySem.W.keepIn K (.ref f7) = true)
    (a8 : PySem.W.nsIn K mainGlobals "weave" = some (some (.ref f8))) (l8 : K.lookup f8 = some ⟨oc8, od8, .func (PySem.W.fnOf "weave" "weave" (defArgs s_weave) (defBody s_weave) (defScope s_weave) .none kV8 dc8 pm8 an8 cd8 ct8), sl8⟩) (c8 : PySem.W.codeIn K cd8 "weave" = true) (k8 : PySem.W.keepIn K (.ref f8) = true)
    (a9 : PySem.W.nsIn K mainGlobals "law" = some (some (.ref f9))) (l9 : K.lookup f9 = some ⟨oc9, od9, .func (PySem.W.fnOf "law" "law" (defArgs s_law) (defBody s_law) (defScope s_law) .none kV9 dc9 pm9 an9 cd9 ct9), sl9⟩) (c9 : PySem.W.codeIn K cd9 "law" = true) (k9 : PySem.W.keepIn K (.ref f9) = true)
    (y0 : PySem.W.nsIn K mainGlobals "len" = some none)
    (y1 : PySem.W.nsIn K mainGlobals "int" = some none)
    (y2 : PySem.W.nsIn K mainGlobals "max" = some none)
    (y3 : PySem.W.nsIn K mainGlobals "range" = some none)
    (y4 : PySem.W.nsIn K mainGlobals "min" = some none)
    (y5 : PySem.W.nsIn K mainGlobals "tuple" = some none)
    (y6 : PySem.W.nsIn K mainGlobals "sorted" = some none)
    : ∃ fd : FuncData, (∀ (s : Shared) (v : Value), BindsTo s fd ⟨[v], []⟩ [("script", v)]) ∧ ∀ base : Heap, K.In base → base.Ns mainGlobals mg → Tbs K mg base → FnOk l.prog w K mg base (L2.CX l.prog w) (4) fa fd ["script"] (spTop 63 K) := by
  have e := hfa.symm.trans (PySem.W.mg_of X G a9)
  cases e
  have F1 := fun_mk (st := s__law_pool) l1 c1 k1
  have F2 := fun_mk (st := s__law_take) l2 c2 k2
  have F3 := fun_mk (st := s__law_hills) l3 c3 k3
  have F4 := fun_mk (st := s__law_one) l4 c4 k4
  have F5 := fun_mk (st := s__law_run) l5 c5 k5
  have F6 := fun_mk (st := s__law_woven) l6 c6 k6
  have F7 := fun_mk (st := s_apart) l7 c7 k7
  have F8 := fun_mk (st := s_weave) l8 c8 k8
  have F9 := fun_mk (st := s_law) l9 c9 k9
  have d1 : Dfn K mg "_law_pool" s__law_pool ["script", "k"] := ⟨_, _, F1, PySem.W.mg_of X G a1, F1.binds (ps := ["script", "k"]) fun _ _ _ _ _ _ us hl => match us, hl with | [_, _], _ => rfl⟩
  have d2 : Dfn K mg "_law_take" s__law_take ["source", "top"] := ⟨_, _, F2, PySem.W.mg_of X G a2, F2.binds (ps := ["source", "top"]) fun _ _ _ _ _ _ us hl => match us, hl with | [_, _], _ => rfl⟩
  have d3 : Dfn K mg "_law_hills" s__law_hills ["walk"] := ⟨_, _, F3, PySem.W.mg_of X G a3, F3.binds (ps := ["walk"]) fun _ _ _ _ _ _ us hl => match us, hl with | [_], _ => rfl⟩
  have d4 : Dfn K mg "_law_one" s__law_one ["source", "things"] := ⟨_, _, F4, PySem.W.mg_of X G a4, F4.binds (ps := ["source", "things"]) fun _ _ _ _ _ _ us hl => match us, hl with | [_, _], _ => rfl⟩
  have d5 : Dfn K mg "_law_run" s__law_run ["source", "most"] := ⟨_, _, F5, PySem.W.mg_of X G a5, F5.binds (ps := ["source", "most"]) fun _ _ _ _ _ _ us hl => match us, hl with | [_, _], _ => rfl⟩
  have d6 : Dfn K mg "_law_woven" s__law_woven ["rows"] := ⟨_, _, F6, PySem.W.mg_of X G a6, F6.binds (ps := ["rows"]) fun _ _ _ _ _ _ us hl => match us, hl with | [_], _ => rfl⟩
  have d7 : Dfn K mg "apart" s_apart ["row"] := ⟨_, _, F7, PySem.W.mg_of X G a7, F7.binds (ps := ["row"]) fun _ _ _ _ _ _ us hl => match us, hl with | [_], _ => rfl⟩
  have d8 : Dfn K mg "weave" s_weave ["rows"] := ⟨_, _, F8, PySem.W.mg_of X G a8, F8.binds (ps := ["rows"]) fun _ _ _ _ _ _ us hl => match us, hl with | [_], _ => rfl⟩
  exact ⟨PySem.W.fnOf "law" "law" (defArgs s_law) (defBody s_law) (defScope s_law) .none kV9 dc9 pm9 an9 cd9 ct9, fun s v => .of_eq rfl, fun base _ _ tbs => (law_ok d1 d2 d3 d4 d5 d6 d7 d8 (PySem.W.mg_none_of X G y0) (PySem.W.mg_none_of X G y1) (PySem.W.mg_none_of X G y2) (PySem.W.mg_none_of X G y3) (PySem.W.mg_none_of X G y4) (PySem.W.mg_none_of X G y5) (PySem.W.mg_none_of X G y6) tbs F9).imp fun _ _ _ _ h => top_sp (n := 63) h⟩
end DL.L14
open PySem PySem.W PyProof.Rows
set_option maxHeartbeats 0 in
theorem PySem.Challenge.cw_hillrooms_k14_rows_woven_holds : PySem.Challenge.rw_hillrooms_k14_rows_woven.Holds := by
  w_on; o_law; k_head; (case hw => w_witness2)
  k_fill
  refine LamX.walk_ofTs (l := PySem.Challenge.rw_hillrooms_k14_rows_woven) (n := 63) (k := 4) (x := "script") (CX := fun w => L2.CX PySem.Challenge.rw_hillrooms_k14_rows_woven.prog w) rfl (by decide) rfl ⟨rfl, by decide, by decide⟩ (fun w h Y => PySem.W.km_in_of Y) ?F (fun _ _ _ _ _ ⟨_, _, _, _, _, _, _, _, _, _, _, _, h⟩ => h)
  case F =>
    intro w mg fa h Y KX G hmg
    refine' DL.law_at KX ?tcb (PySem.W.km_tabs_of Y) ?all
    (case tcb => kernel_rfl)
    refine' DL.L14.all_mk KX G hmg ?a1 ?l1 ?c1 ?k1 ?a2 ?l2 ?c2 ?k2 ?a3 ?l3 ?c3 ?k3 ?a4 ?l4 ?c4 ?k4 ?a5 ?l5 ?c5 ?k5 ?a6 ?l6 ?c6 ?k6 ?a7 ?l7 ?c7 ?k7 ?a8 ?l8 ?c8 ?k8 ?a9 ?l9 ?c9 ?k9 ?y0 ?y1 ?y2 ?y3 ?y4 ?y5 ?y6
    (case a1 => k_is); (case l1 => k_is); (case c1 => k_is); (case k1 => k_is); (case a2 => k_is); (case l2 => k_is); (case c2 => k_is); (case k2 => k_is); (case a3 => k_is); (case l3 => k_is); (case c3 => k_is); (case k3 => k_is); (case a4 => k_is); (case l4 => k_is); (case c4 => k_is); (case k4 => k_is); (case a5 => k_is); (case l5 => k_is); (case c5 => k_is); (case k5 => k_is); (case a6 => k_is); (case l6 => k_is); (case c6 => k_is); (case k6 => k_is); (case a7 => k_is); (case l7 => k_is); (case c7 => k_is); (case k7 => k_is); (case a8 => k_is); (case l8 => k_is); (case c8 => k_is); (case k8 => k_is); (case a9 => k_is); (case l9 => k_is); (case c9 => k_is); (case k9 => k_is); (case y0 => k_is); (case y1 => k_is); (case y2 => k_is); (case y3 => k_is); (case y4 => k_is); (case y5 => k_is); (case y6 => k_is)

