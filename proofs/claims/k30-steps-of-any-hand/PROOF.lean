import PyProof.Rows.All
import Wide.All
import OpenK.AllK
import Wide.FinOn
import HandS.ForMost
import HandS.ExcValue
import HandS.Zip
import KE.KUnpackStar
import HandS.IsInst
import HandS.TupAny
import HandS.Style
import HandS.TupLe
import HandS.More
import HandS.Deep
import HandS.SortInts
import HandS.SortRule
import HandS.SetFor
import HandS.Strs
import HandS.Zip0
import KE.GoesMore
import KE.GoesEnum
import HandS.Defaults
import HandS.Text
import PyProof.ReprBulk
import HandS.ExcInit
import HandS.ExcIs
import HandS.ExcField
import HandS.ExcOwn
import KE.KExcIs
import HandS.HotCalls
import HandS.ExcBuiltin
import HandS.TupMul
import HandS.OwnEq
import OpenK.KOps
import KE.KCallOwn
import PyProof.EqAt
import HandS.FStr
import HandS.Records
import HandS.RaiseMore
import KE.DataCmp
import HandS.TryOnly
import HandS.ReplaceLit
import PyProof.StrBlock2
import HandS.Small
import KE.KExcInit
import HandS.CallLocal
import HandS.ListItems
import PyProof.EqKinds
import PyProof.FactsAll.dict_1
import PyProof.NeKinds
import HandS.List
import PyProof.ListStr
import HandS.Conv
import HandS.DictComp
import KE.GoesSet
import HandS.NoneIn
import HandS.Replace
import HandS.Flow
import KE.KDictZip
import KE.GoesZip
import PySem.Challenge.RW_weavesafe_k30_steps_of_any_hand
set_option Elab.async false
set_option linter.all false
set_option maxRecDepth 100000
set_option maxHeartbeats 4000000
set_option autoImplicit false
namespace WS
open PySem PySem.Spec PyProof.Rows L2
inductive D where
  | non | bl (b : Bool) | int (i : Int) | str (x : Str)
  | tup (xs : List D) | lst (xs : List D) | rdl (xs : List D) | dct (ks : List Key) (vs : List D) | ins (C : Str) (ns : List Str) (vs : List D) | ty (n : String) | obj (a : Addr) | fn (nm : Str) | loc (n : Nat) | deck
  deriving Inhabited
mutual
def D.beq : D → D → Bool
  | .non, .non => true
  | .bl a, .bl b => decide (a = b)
  | .int a, .int b => decide (a = b)
  | .str a, .str b => decide (a = b)
  | .tup a, .tup b => D.beqs a b
  | .lst a, .lst b => D.beqs a b
  | .rdl a, .rdl b => D.beqs a b
  | .dct k a, .dct l b => decide (k = l) && D.beqs a b
  | .ins c n a, .ins d m b => decide (c = d) && (decide (n = m) && D.beqs a b)
  | .ty a, .ty b => decide (a = b)
  | .obj a, .obj b => decide (a = b)
  | .fn a, .fn b => decide (a = b)
  | .loc a, .loc b => decide (a = b)
  | .deck, .deck => true
  | _, _ => false
def D.beqs : List D → List D → Bool
  | [], [] => true
  | x :: xs, y :: ys => D.beq x y && D.beqs xs ys
  | _, _ => false
end
mutual
theorem D.beq_iff : ∀ a b : D, D.beq a b = true ↔ a = b
  | .non, b => by cases b <;> simp [D.beq]
  | .bl a, b => by cases b <;> simp [D.beq]
  | .int a, b => by cases b <;> simp [D.beq]
  | .str a, b => by cases b <;> simp [D.beq]
  | .tup a, b => by cases b <;> simp [D.beq, D.beqs_iff a]
  | .lst a, b => by cases b <;> simp [D.beq, D.beqs_iff a]
  | .rdl a, b => by cases b <;> simp [D.beq, D.beqs_iff a]
  | .dct k a, b => by cases b <;> simp [D.beq, D.beqs_iff a]
  | .ins c n a, b => by cases b <;> simp [D.beq, D.beqs_iff a]
  | .ty a, b => by cases b <;> simp [D.beq]
  | .obj a, b => by cases b <;> simp [D.beq]
  | .fn a, b => by cases b <;> simp [D.beq]
  | .loc a, b => by cases b <;> simp [D.beq]
  | .deck, b => by cases b <;> simp [D.beq]
theorem D.beqs_iff : ∀ a b : List D, D.beqs a b = true ↔ a = b
  | [], b => by cases b <;> simp [D.beqs]
  | x :: xs, b => by cases b with
    | nil => simp [D.beqs]
    | cons y ys => simp only [D.beqs, Bool.and_eq_true, D.beq_iff x y, D.beqs_iff xs ys, List.cons.injEq]
end
instance : DecidableEq D := fun a b => decidable_of_iff _ (D.beq_iff a b)
/-- the persistent part: finished things; where the deck stands -/
structure Sx where
  hp : Hp
  da : Option Addr
  lo : List Addr
def Sub (S H : Hp) : Prop := ∀ a o, S a = some o → H a = some o
theorem Sub.refl (S : Hp) : Sub S S := fun _ _ h => h
theorem Sub.trans {A B C : Hp} (h : Sub A B) (g : Sub B C) : Sub A C := fun a o e => g a o (h a o e)
theorem Sub.new {H : Hp} {p : Addr} {o : HO} (h : H p = none) : Sub H (upd H p o) := fun a u e => by
  rw [upd_ne (ne_of_none e h)]; exact e
theorem Sub.none {A B : Hp} (h : Sub A B) {a : Addr} (n : B a = none) : A a = none := by
  cases q : A a with
  | none => rfl
  | some o => rw [h a o q] at n; cases n
theorem Sub.rd {A B : Hp} (h : Sub A B) {a : Addr} {u : HO} (r : Rd A a u) : Rd B a u := by
  rcases r with r | ⟨o, r⟩
  · exact .inl (h _ _ r)
  · exact .inr ⟨o, h _ _ r⟩
theorem Sub.sqL {K : PySem.W.Frag} {A B : Hp} (h : Sub A B) {a : Addr} {xs : List V} (r : SqL K A a xs) : SqL K B a xs := r.imp h.rd id
theorem Sub.sqT {K : PySem.W.Frag} {A B : Hp} (h : Sub A B) {a : Addr} {xs : List V} (r : SqT K A a xs) : SqT K B a xs := r.imp h.rd id
/-- a class by its name -/
def ClsN (K : PySem.W.Frag) (nm : Str) (C : Addr) : Prop := PySem.W.nsIn K mainGlobals nm = some (some (.ref C))
/-- an exception class -/
def excG (K : PySem.W.Frag) (C : Addr) : Bool := decide (PySem.W.findIn K (.ref C) "__getattribute__" = some (some (.builtin "BaseException.__getattribute__")))
/-- an exception that was caught: its class, its dict -/
def exH (a C : Addr) (d : Option Addr) : HO := .ext fun h => ∃ (o : Obj) (vs : Array Value), h.get? a = some o ∧ o.cls = .ref C ∧ o.dict = d ∧ o.data = .fields vs
mutual
inductive Rp (K : PySem.W.Frag) (S : Sx) : V → D → Prop
  | non : Rp K S .non .non
  | bl (b : Bool) : Rp K S (.bl b) (.bl b)
  | int (i : Int) : Rp K S (.int i) (.int i)
  | str (x : Str) : Rp K S (.str x) (.str x)
  | tup {a : Addr} {xs : List V} {ds : List D} : SqT K S.hp a xs → RpL K S xs ds → Rp K S (.ref a) (.tup ds)
  | lst {a : Addr} {xs : List V} {ds : List D} : S.hp a = some (.lst xs) → RpL K S xs ds → Rp K S (.ref a) (.lst ds)
  | rdl {a : Addr} {xs : List V} {ds : List D} : SqL K S.hp a xs → RpL K S xs ds → Rp K S (.ref a) (.rdl ds)
  | ins {a C dx : Addr} {nm : Str} {fs : List (Str × V)} {ns : List Str} {vs : List V} {ds : List D} : S.hp a = some (.ins C dx fs) → ClsN K nm C → excG K C = false → fs.map (·.1) = ns → fs.map (·.2) = vs → RpL K S vs ds → Rp K S (.ref a) (.ins nm ns ds)
  | exc {a C dd : Addr} {nm : Str} {fs : List (Str × V)} {ns : List Str} {vs : List V} {ds : List D} : S.hp a = some (exH a C (some dd)) → ClsN K nm C → excG K C = true → S.hp dd = some (.xd fs) → fs.map (·.1) = ns → fs.map (·.2) = vs → RpL K S vs ds → Rp K S (.ref a) (.ins nm ns ds)
  | exc0 {a C : Addr} {nm : Str} : S.hp a = some (exH a C none) → ClsN K nm C → excG K C = true → Rp K S (.ref a) (.ins nm [] [])
  | ty (n : String) : Rp K S (.ty n) (.ty n)
  | obj (a : Addr) : Rp K S (.ref a) (.obj a)
  | fn {a : Addr} {nm : Str} : ClsN K nm a → Rp K S (.ref a) (.fn nm)
  | dct {a : Addr} {kvs : List (Key × V)} {ks : List Key} {vs : List V} {ds : List D} : Rd S.hp a (.dK kvs) → kvs.map (·.1) = ks → kvs.map (·.2) = vs → RpL K S vs ds → Rp K S (.ref a) (.dct ks ds)
  | deck {a : Addr} : S.da = some a → Rp K S (.ref a) .deck
  | loc {a : Addr} {n : Nat} : S.lo[n]? = some a → Rp K S (.ref a) (.loc n)
inductive RpL (K : PySem.W.Frag) (S : Sx) : List V → List D → Prop
  | nil : RpL K S [] []
  | cons {v : V} {vs : List V} {d : D} {ds : List D} : Rp K S v d → RpL K S vs ds → RpL K S (v :: vs) (d :: ds)
end
/-- S' has what S has -/
structure Le (S S' : Sx) : Prop where
  s : Sub S.hp S'.hp
  d : ∀ a, S.da = some a → S'.da = some a
  l : ∀ (n : Nat) (a : Addr), S.lo[n]? = some a → S'.lo[n]? = some a
theorem Le.refl (S : Sx) : Le S S := ⟨Sub.refl _, fun _ h => h, fun _ _ h => h⟩
theorem Le.trans {A B C : Sx} (h : Le A B) (g : Le B C) : Le A C := ⟨h.s.trans g.s, fun a e => g.d a (h.d a e), fun n a e => g.l n a (h.l n a e)⟩
mutual
theorem Rp.mono {K : PySem.W.Frag} {S S' : Sx} (l : Le S S') : ∀ {v : V} {d : D}, Rp K S v d → Rp K S' v d
  | _, _, .non => .non
  | _, _, .bl b => .bl b
  | _, _, .int i => .int i
  | _, _, .str x => .str x
  | _, _, .tup h r => .tup (l.s.sqT h) (r.mono l)
  | _, _, .lst h r => .lst (l.s _ _ h) (r.mono l)
  | _, _, .rdl h r => .rdl (l.s.sqL h) (r.mono l)
  | _, _, .ins h c x a b r => .ins (l.s _ _ h) c x a b (r.mono l)
  | _, _, .exc h c x g a b r => .exc (l.s _ _ h) c x (l.s _ _ g) a b (r.mono l)
  | _, _, .exc0 h c x => .exc0 (l.s _ _ h) c x
  | _, _, .ty n => .ty n
  | _, _, .obj a => .obj a
  | _, _, .fn h => .fn h
  | _, _, .dct h a b r => .dct (l.s.rd h) a b (r.mono l)
  | _, _, .deck h => .deck (l.d _ h)
  | _, _, .loc h => .loc (l.l _ _ h)
theorem RpL.mono {K : PySem.W.Frag} {S S' : Sx} (l : Le S S') : ∀ {v : List V} {d : List D}, RpL K S v d → RpL K S' v d
  | _, _, .nil => .nil
  | _, _, .cons h r => .cons (h.mono l) (r.mono l)
end
/-- an exception in the air: its class, its fields -/
def ExRp (K : PySem.W.Frag) (S : Sx) (C : Str) (ns : List Str) (ds : List D) (cls : Value) (d : Option Addr) : Prop :=
  ∃ Ca : Addr, cls = .ref Ca ∧ ClsN K C Ca ∧ excG K Ca = true ∧ ((d = none ∧ ns = [] ∧ ds = []) ∨ ∃ (dd : Addr) (fs : List (Str × V)), d = some dd ∧ S.hp dd = some (.xd fs) ∧ fs.map (·.1) = ns ∧ RpL K S (fs.map (·.2)) ds)
theorem ExRp.mono {K : PySem.W.Frag} {S S' : Sx} (l : Le S S') {C : Str} {ns : List Str} {ds : List D} {cls : Value} {d : Option Addr} (h : ExRp K S C ns ds cls d) : ExRp K S' C ns ds cls d := by
  obtain ⟨Ca, h1, h2, h0, h3⟩ := h
  refine ⟨Ca, h1, h2, h0, ?_⟩
  rcases h3 with h3 | ⟨dd, fs, e1, e2, e3, e4⟩
  · exact .inl h3
  · exact .inr ⟨dd, fs, e1, l.s _ _ e2, e3, e4.mono l⟩
section
variable {K : PySem.W.Frag} {S S' : Sx}
theorem RpL.length : ∀ {vs : List V} {ds : List D}, RpL K S vs ds → vs.length = ds.length
  | _, _, .nil => rfl
  | _, _, .cons _ t => by simp [RpL.length t]
theorem RpL.get : ∀ {vs : List V} {ds : List D}, RpL K S vs ds → ∀ {i : Nat} {d : D}, ds[i]? = some d → ∃ v, vs[i]? = some v ∧ Rp K S v d
  | _, _, .nil, i, d, e => by simp at e
  | _, _, .cons (v := v) h t, 0, d, e => by
    simp only [List.getElem?_cons_zero, Option.some.injEq] at e
    subst e
    exact ⟨v, rfl, h⟩
  | _, _, .cons h t, i + 1, d, e => by
    simp only [List.getElem?_cons_succ] at e ⊢
    exact RpL.get t e
theorem RpL.app : ∀ {vs ws : List V} {ds es : List D}, RpL K S vs ds → RpL K S ws es → RpL K S (vs ++ ws) (ds ++ es)
  | _, _, _, _, .nil, h => h
  | _, _, _, _, .cons h t, g => .cons h (RpL.app t g)
theorem RpL.take : ∀ {vs : List V} {ds : List D} (n : Nat), RpL K S vs ds → RpL K S (vs.take n) (ds.take n)
  | _, _, 0, _ => by simp; exact .nil
  | _, _, n + 1, .nil => by simp; exact .nil
  | _, _, n + 1, .cons h t => by simp only [List.take_succ_cons]; exact .cons h (RpL.take n t)
theorem RpL.drop : ∀ {vs : List V} {ds : List D} (n : Nat), RpL K S vs ds → RpL K S (vs.drop n) (ds.drop n)
  | _, _, 0, h => h
  | _, _, n + 1, .nil => by simp; exact .nil
  | _, _, n + 1, .cons h t => by simp only [List.drop_succ_cons]; exact RpL.drop n t
theorem RpL.rev {vs : List V} {ds : List D} (h : RpL K S vs ds) : RpL K S vs.reverse ds.reverse := by
  induction ds generalizing vs with
  | nil => cases h; exact .nil
  | cons d ds ih =>
    cases h with
    | cons h t =>
      simp only [List.reverse_cons]
      exact (ih t).app (.cons h .nil)
theorem RpL.ints : ∀ (is : List Int), RpL K S (is.map V.int) (is.map D.int)
  | [] => .nil
  | i :: r => .cons (.int i) (RpL.ints r)
theorem RpL.set : ∀ {vs : List V} {ds : List D} {v : V} {d : D} (i : Nat), RpL K S vs ds → Rp K S v d → RpL K S (vs.set i v) (ds.set i d)
  | _, _, _, _, _, .nil, _ => .nil
  | _, _, _, _, 0, .cons h t, g => .cons g t
  | _, _, _, _, i + 1, .cons h t, g => .cons h (RpL.set i t g)
end
/-- the heap has grown; nothing that stood changed, what was no finished thing is none -/
structure Grow (S : Sx) (H : Hp) (S' : Sx) (H' : Hp) : Prop where
  s : Sub S.hp S'.hp
  d : S'.da = S.da
  l : S'.lo = S.lo
  sh : Sub S'.hp H'
  h : Sub H H'
  n : ∀ a o, H a = some o → S.hp a = none → S'.hp a = none
theorem Grow.le {S S' : Sx} {H H' : Hp} (g : Grow S H S' H') : Le S S' := ⟨g.s, fun a e => by rw [g.d]; exact e, fun n a e => by rw [g.l]; exact e⟩
theorem Grow.refl {S : Sx} {H : Hp} (h : Sub S.hp H) : Grow S H S H := ⟨Sub.refl _, rfl, rfl, h, Sub.refl _, fun _ _ _ e => e⟩
theorem Grow.trans {S S1 S2 : Sx} {H H1 H2 : Hp} (a : Grow S H S1 H1) (b : Grow S1 H1 S2 H2) : Grow S H S2 H2 :=
  ⟨a.s.trans b.s, b.d.trans a.d, b.l.trans a.l, b.sh, a.h.trans b.h, fun x o e n => b.n x o (a.h x o e) (a.n x o e n)⟩
/-- a new finished thing -/
def Sx.add (S : Sx) (p : Addr) (o : HO) : Sx := ⟨upd S.hp p o, S.da, S.lo⟩
theorem Grow.add {S : Sx} {H : Hp} (h : Sub S.hp H) {p : Addr} {o : HO} (n : H p = none) : Grow S H (S.add p o) (upd H p o) where
  s := Sub.new (h.none n)
  d := rfl
  l := rfl
  sh := fun a u e => by
    by_cases q : a = p
    · subst q
      rw [show (S.add a o).hp a = some o from upd_same] at e
      rw [upd_same]; exact e
    · rw [show (S.add p o).hp a = S.hp a from upd_ne q] at e
      rw [upd_ne q]; exact h _ _ e
  h := Sub.new n
  n := fun a u e hs => by
    rw [show (S.add p o).hp a = S.hp a from upd_ne (ne_of_none e n)]; exact hs
theorem Sx.add_at {S : Sx} {p : Addr} {o : HO} : (S.add p o).hp p = some o := upd_same
inductive Sl where
  | no | val (d : D) | own (d : D)
/-- an own list or dict, its content -/
def OwnAt (K : PySem.W.Frag) (S : Sx) (H : Hp) (p : Addr) : D → Prop
  | .lst ds => ∃ xs, H p = some (.lst xs) ∧ RpL K S xs ds
  | .dct ks ds => ∃ kvs, H p = some (.dK kvs) ∧ kvs.map (·.1) = ks ∧ RpL K S (kvs.map (·.2)) ds
  | .ins nm ns ds => ∃ (C dx : Addr) (fs : List (Str × V)), H p = some (.ins C dx fs) ∧ ClsN K nm C ∧ excG K C = false ∧ fs.map (·.1) = ns ∧ RpL K S (fs.map (·.2)) ds
  | _ => False
/-- the deck: its cells, at, sum; what stands in the store, by its number -/
abbrev Dk := Option (List Int × Int × Int × List D)
def kCells : Key := .inr "cells"
def kAt : Key := .inr "at"
def kSum : Key := .inr "sum"
/-- the store -/
structure StAt (K : PySem.W.Frag) (S : Sx) (H : Hp) (F : Hp) (a c : Addr) (st : List D) (no : Addr → Prop) : Prop where
  len : S.lo.length = st.length
  nd : S.lo.Nodup
  own : ∀ (n : Nat) (p : Addr) (d : D), S.lo[n]? = some p → st[n]? = some d → OwnAt K S H p d ∧ S.hp p = none ∧ F p = none ∧ ¬ no p ∧ p ≠ a ∧ p ≠ c
def DkAt (K : PySem.W.Frag) (S : Sx) (H : Hp) (F : Hp) (dk : Dk) (no : Addr → Prop) : Prop :=
  match dk with
  | none => S.da = none ∧ S.lo = []
  | some (cells, at_, sum, st) => ∃ a c, S.da = some a ∧ H a = some (.dK [(kCells, .ref c), (kAt, .int at_), (kSum, .int sum)]) ∧ H c = some (.lst (cells.map V.int)) ∧ S.hp a = none ∧ S.hp c = none ∧ F a = none ∧ F c = none ∧ ¬ no a ∧ ¬ no c ∧ StAt K S H F a c st no
def SlOk (K : PySem.W.Frag) (σ : L2.St) (H : Hp) (S : Sx) (F : Hp) (i : Nat) : Sl → Prop
  | .no => True
  | .val d => ∃ v, σ[i]? = some (some v) ∧ Rp K S v d
  | .own d => ∃ p, σ[i]? = some (some (V.ref p)) ∧ OwnAt K S H p d ∧ S.hp p = none ∧ F p = none
/-- the addresses of own things -/
def Owns (σ : L2.St) (ρ : List Sl) (p : Addr) : Prop := ∃ (i : Nat) (d : D), ρ[i]? = some (Sl.own d) ∧ σ[i]? = some (some (V.ref p))
structure Rep (K : PySem.W.Frag) (σ : L2.St) (H : Hp) (S : Sx) (F : Hp) (ρ : List Sl) (dk : Dk) : Prop where
  sh : Sub S.hp H
  fh : Sub F H
  fs : ∀ a o, F a = some o → S.hp a = none
  len : σ.length = ρ.length
  env : ∀ (i : Nat) (s : Sl), ρ[i]? = some s → SlOk K σ H S F i s
  dist : ∀ (i j : Nat) (d e : D) (p : Addr), ρ[i]? = some (Sl.own d) → ρ[j]? = some (Sl.own e) → σ[i]? = some (some (V.ref p)) → σ[j]? = some (some (V.ref p)) → i = j
  dka : DkAt K S H F dk (Owns σ ρ)
section
variable {K : PySem.W.Frag} {σ : L2.St} {H H' : Hp} {S S' : Sx} {F : Hp} {ρ : List Sl} {dk : Dk}
theorem OwnAt.grow {p : Addr} {d : D} (h : OwnAt K S H p d) (l : Le S S') (hh : Sub H H') : OwnAt K S' H' p d := by
  cases d with
  | lst ds => obtain ⟨xs, e, r⟩ := h; exact ⟨xs, hh _ _ e, r.mono l⟩
  | dct ks ds => obtain ⟨kvs, e, k, r⟩ := h; exact ⟨kvs, hh _ _ e, k, r.mono l⟩
  | ins nm ns ds => obtain ⟨C, dx, fs, e, c, x, k, r⟩ := h; exact ⟨C, dx, fs, hh _ _ e, c, x, k, r.mono l⟩
  | _ => exact h.elim
theorem OwnAt.at {p : Addr} {d : D} (h : OwnAt K S H p d) : ∃ o, H p = some o := by
  cases d with
  | lst ds => obtain ⟨xs, e, r⟩ := h; exact ⟨_, e⟩
  | dct ks ds => obtain ⟨kvs, e, k, r⟩ := h; exact ⟨_, e⟩
  | ins nm ns ds => obtain ⟨C, dx, fs, e, _⟩ := h; exact ⟨_, e⟩
  | _ => exact h.elim
theorem OwnAt.to {p : Addr} {d : D} (h : OwnAt K S H p d) (l : Le S S') (e : ∀ o, H p = some o → H' p = some o) : OwnAt K S' H' p d := by
  cases d with
  | lst ds => obtain ⟨xs, q, r⟩ := h; exact ⟨xs, e _ q, r.mono l⟩
  | dct ks ds => obtain ⟨kvs, q, k, r⟩ := h; exact ⟨kvs, e _ q, k, r.mono l⟩
  | ins nm ns ds => obtain ⟨C, dx, fs, q, c, x, k, r⟩ := h; exact ⟨C, dx, fs, e _ q, c, x, k, r.mono l⟩
  | _ => exact h.elim
/-- the store, seen from elsewhere -/
theorem StAt.move {F' : Hp} {a c : Addr} {st : List D} {no no' : Addr → Prop} (h : StAt K S H F a c st no) (l : Le S S') (el : S'.lo = S.lo)
    (m : ∀ p o, p ∈ S.lo → H p = some o → S.hp p = none → F p = none → ¬ no p → p ≠ a → p ≠ c → H' p = some o ∧ S'.hp p = none ∧ F' p = none ∧ ¬ no' p) : StAt K S' H' F' a c st no' where
  len := by rw [el]; exact h.len
  nd := by rw [el]; exact h.nd
  own := fun n p d h1 h2 => by
    rw [el] at h1
    obtain ⟨q1, q2, q3, q4, q5, q6⟩ := h.own n p d h1 h2
    obtain ⟨o, ho⟩ := q1.at
    obtain ⟨m1, m2, m3, m4⟩ := m p o (List.mem_of_getElem? h1) ho q2 q3 q4 q5 q6
    exact ⟨q1.to l fun o' e => by rw [ho] at e; cases e; exact m1, m2, m3, m4, q5, q6⟩
theorem Rep.grow (r : Rep K σ H S F ρ dk) (g : Grow S H S' H') : Rep K σ H' S' F ρ dk where
  sh := g.sh
  fh := r.fh.trans g.h
  fs := fun a o e => g.n a o (r.fh a o e) (r.fs a o e)
  len := r.len
  env := fun i s e => by
    have h := r.env i s e
    cases s with
    | no => trivial
    | val d => obtain ⟨v, h1, h2⟩ := h; exact ⟨v, h1, h2.mono g.le⟩
    | own d =>
      obtain ⟨p, h1, h2, h3, h4⟩ := h
      obtain ⟨o, ho⟩ := h2.at
      exact ⟨p, h1, h2.grow g.le g.h, g.n p o ho h3, h4⟩
  dist := r.dist
  dka := by
    have h := r.dka
    cases dk with
    | none => exact ⟨g.d.trans h.1, g.l.trans h.2⟩
    | some x =>
      obtain ⟨cells, at_, sum, st⟩ := x
      obtain ⟨a, c, h1, h2, h3, h4, h5, h6, h7, h8, h9, h10⟩ := h
      exact ⟨a, c, g.d.trans h1, g.h _ _ h2, g.h _ _ h3, g.n _ _ h2 h4, g.n _ _ h3 h5, h6, h7, h8, h9, h10.move g.le g.l fun p o _ z1 z2 z3 z4 _ _ => ⟨g.h _ _ z1, g.n _ _ z1 z2, z3, z4⟩⟩
end
/-- what is not there yet is not of the store -/
theorem Rep.fresh_lo {K : PySem.W.Frag} {σ : L2.St} {H : Hp} {S : Sx} {F : Hp} {ρ : List Sl} {dk : Dk} (r : Rep K σ H S F ρ dk) {p : Addr} (h : H p = none) : p ∉ S.lo := fun hp => by
  have q := r.dka
  cases dk with
  | none => rw [q.2] at hp; simp at hp
  | some x =>
    obtain ⟨cells, at_, sum, st⟩ := x
    obtain ⟨a, c, _, _, _, _, _, _, _, _, _, q10⟩ := q
    obtain ⟨n, hn⟩ := List.getElem?_of_mem hp
    have hl : n < st.length := by
      rw [← q10.len]
      exact (List.getElem?_eq_some_iff.mp hn).1
    obtain ⟨q1, _⟩ := q10.own n p _ hn (List.getElem?_eq_getElem hl)
    obtain ⟨o, ho⟩ := q1.at
    rw [h] at ho; cases ho
abbrev E := List Sl → Dk → Option (D × List Sl × Dk)
abbrev EL := List Sl → Dk → Option (List D × List Sl × Dk)
def TEv (K : PySem.W.Frag) (f : E) : TE := fun σ H Q => ∃ S F ρ dk d ρ' dk', Rep K σ H S F ρ dk ∧ f ρ dk = some (d, ρ', dk') ∧
  ∀ v H' S', Le S S' → Rep K σ H' S' F ρ' dk' → Rp K S' v d → Q v H'
def TAv (K : PySem.W.Frag) (f : EL) : TA := fun σ H Q => ∃ S F ρ dk d ρ' dk', Rep K σ H S F ρ dk ∧ f ρ dk = some (d, ρ', dk') ∧
  ∀ v H' S', Le S S' → Rep K σ H' S' F ρ' dk' → RpL K S' v d → Q v H'
def TTv (K : PySem.W.Frag) (f : E) : TT := fun σ H Q => ∃ S F ρ dk b ρ' dk', Rep K σ H S F ρ dk ∧ f ρ dk = some (.bl b, ρ', dk') ∧
  ∀ H' S', Le S S' → Rep K σ H' S' F ρ' dk' → Q b H'
/-- a weaker reading -/
theorem _root_.L2.PE.imp {X : Cx} {e : Expr} {t t' : TE} (h : PE X e t) (i : ∀ σ H Q, t' σ H Q → t σ H Q) : PE X e t' := ⟨fun pins s σ H Q I q => h.run pins s σ H Q I (i _ _ _ q)⟩
theorem _root_.L2.PT.imp {X : Cx} {e : Expr} {t t' : TT} (h : PT X e t) (i : ∀ σ H Q, t' σ H Q → t σ H Q) : PT X e t' := ⟨fun pins s σ H Q I q => h.run pins s σ H Q I (i _ _ _ q)⟩
theorem _root_.L2.PA.imp {X : Cx} {e : List Expr} {t t' : TA} (h : PA X e t) (i : ∀ σ H Q, t' σ H Q → t σ H Q) : PA X e t' := ⟨fun pos pins s σ H Q I q => h.run pos pins s σ H Q I (i _ _ _ q)⟩
theorem _root_.L2.PS.imp {X : Cx} {e : Stmt} {t t' : TS} (h : PS X e t) (i : ∀ D σ H, t' D σ H → t D σ H) : PS X e t' := ⟨fun pins s σ H D I q => h.run pins s σ H D I (i _ _ _ q)⟩
theorem _root_.L2.PSs.imp {X : Cx} {e : List Stmt} {t t' : TS} (h : PSs X e t) (i : ∀ D σ H, t' D σ H → t D σ H) : PSs X e t' := ⟨fun pins s σ H D I q => h.run pins s σ H D I (i _ _ _ q)⟩
def eC (d : D) : E := fun ρ k => some (d, ρ, k)
def eVar (i : Nat) : E := fun ρ k => match ρ[i]? with
  | some (.val d) => some (d, ρ, k)
  | some (.own d) => some (d, ρ.set i (.val d), k)
  | _ => none
def eOp (g : D → D → Option D) (a b : E) : E := fun ρ k => (a ρ k).bind fun x => (b x.2.1 x.2.2).bind fun y => (g x.1 y.1).map fun z => (z, y.2.1, y.2.2)
def eUn (g : D → Option D) (a : E) : E := fun ρ k => (a ρ k).bind fun x => (g x.1).map fun z => (z, x.2.1, x.2.2)
def aNil : EL := fun ρ k => some ([], ρ, k)
def aCons (a : E) (b : EL) : EL := fun ρ k => (a ρ k).bind fun x => (b x.2.1 x.2.2).map fun y => (x.1 :: y.1, y.2.1, y.2.2)
def eApp (g : List D → Option D) (a : EL) : E := fun ρ k => (a ρ k).bind fun x => (g x.1).map fun z => (z, x.2.1, x.2.2)
def eAnd (a b : E) : E := fun ρ k => (a ρ k).bind fun x => match x.1 with
  | .bl true => b x.2.1 x.2.2
  | .bl false => some (.bl false, x.2.1, x.2.2)
  | _ => none
def eOr (a b : E) : E := fun ρ k => (a ρ k).bind fun x => match x.1 with
  | .bl false => b x.2.1 x.2.2
  | .bl true => some (.bl true, x.2.1, x.2.2)
  | _ => none
def gNot : D → Option D
  | .bl b => some (.bl (!b))
  | _ => none
abbrev eNot (a : E) : E := eUn gNot a
def eIf (c a b : E) : E := fun ρ k => (c ρ k).bind fun x => match x.1 with
  | .bl true => a x.2.1 x.2.2
  | .bl false => b x.2.1 x.2.2
  | _ => none
end WS
namespace WS
open PySem PySem.Spec PyProof.Rows L2
section
variable {K : PySem.W.Frag} {σ : L2.St} {H H' : Hp} {S S' : Sx} {F : Hp} {ρ : List Sl} {dk : Dk}
theorem Owns.set_val {i : Nat} {d : D} {p : Addr} (h : Owns σ (ρ.set i (.val d)) p) : Owns σ ρ p := by
  obtain ⟨j, e, h1, h2⟩ := h
  by_cases hj : i = j
  · subst hj
    rw [List.getElem?_set] at h1
    by_cases hl : i < ρ.length
    · rw [if_pos rfl, if_pos hl] at h1; cases h1
    · rw [if_pos rfl, if_neg hl] at h1; cases h1
  · rw [List.getElem?_set_ne hj] at h1
    exact ⟨j, e, h1, h2⟩
theorem Rep.freeze {i : Nat} {d : D} (r : Rep K σ H S F ρ dk) (h : ρ[i]? = some (Sl.own d)) :
    ∃ p o, σ[i]? = some (some (V.ref p)) ∧ H p = some o ∧ Rep K σ H (S.add p o) F (ρ.set i (.val d)) dk ∧ Le S (S.add p o) ∧ Rp K (S.add p o) (.ref p) d := by
  obtain ⟨p, h1, h2, h3, h4⟩ := r.env i _ h
  have hl : i < ρ.length := by
    by_cases hl : i < ρ.length
    · exact hl
    · rw [List.getElem?_eq_none (Nat.le_of_not_lt hl)] at h; cases h
  obtain ⟨o, ho, hr⟩ : ∃ o, H p = some o ∧ (∀ S', Le S S' → S'.hp p = some o → Rp K S' (.ref p) d) := by
    cases d with
    | lst ds =>
      obtain ⟨xs, e, q⟩ := h2
      exact ⟨_, e, fun S' l e' => .lst e' (q.mono l)⟩
    | dct ks ds =>
      obtain ⟨kvs, e, k, q⟩ := h2
      exact ⟨_, e, fun S' l e' => .dct (.inl e') k rfl (q.mono l)⟩
    | ins nm ns ds =>
      obtain ⟨C, dx, fs, e, c, x, k, q⟩ := h2
      exact ⟨_, e, fun S' l e' => .ins e' c x k rfl (q.mono l)⟩
    | _ => exact h2.elim
  have le : Le S (S.add p o) := ⟨Sub.new h3, fun a e => e, fun _ _ e => e⟩
  have hrp : Rp K (S.add p o) (.ref p) d := hr _ le Sx.add_at
  have hp : ∀ a, a ≠ p → (S.add p o).hp a = S.hp a := fun a q => upd_ne q
  refine ⟨p, o, h1, ho, ⟨?_, r.fh, ?_, by rw [r.len, List.length_set], ?_, ?_, ?_⟩, le, hrp⟩
  · intro a u e
    by_cases q : a = p
    · subst q; rw [Sx.add_at] at e; rw [ho]; exact e
    · rw [hp a q] at e; exact r.sh a u e
  · intro a u e
    rw [hp a (fun q => by subst q; rw [h4] at e; cases e)]
    exact r.fs a u e
  · intro j s e
    by_cases hj : i = j
    · subst hj
      rw [List.getElem?_set_self hl] at e
      cases e
      exact ⟨_, h1, hrp⟩
    · rw [List.getElem?_set_ne hj] at e
      have q := r.env j s e
      cases s with
      | no => trivial
      | val c => obtain ⟨v, q1, q2⟩ := q; exact ⟨v, q1, q2.mono le⟩
      | own c =>
        obtain ⟨p', q1, q2, q3, q4⟩ := q
        have ne : p' ≠ p := fun z => by
          subst z
          exact hj (r.dist i j d c p' h e h1 q1)
        exact ⟨p', q1, q2.grow le (Sub.refl _), by rw [hp p' ne]; exact q3, q4⟩
  · intro j k c e p' ej ek sj sk
    have nj : i ≠ j := fun z => by subst z; rw [List.getElem?_set_self hl] at ej; cases ej
    have nk : i ≠ k := fun z => by subst z; rw [List.getElem?_set_self hl] at ek; cases ek
    rw [List.getElem?_set_ne nj] at ej
    rw [List.getElem?_set_ne nk] at ek
    exact r.dist j k c e p' ej ek sj sk
  · have q := r.dka
    cases dk with
    | none => exact q
    | some x =>
      obtain ⟨cells, at_, sum, st⟩ := x
      obtain ⟨a, c, q1, q2, q3, q4, q5, q6, q7, q8, q9, q10⟩ := q
      have ow : Owns σ ρ p := ⟨i, d, h, h1⟩
      exact ⟨a, c, q1, q2, q3, by rw [hp a (fun z => q8 (z ▸ ow))]; exact q4, by rw [hp c (fun z => q9 (z ▸ ow))]; exact q5, q6, q7, fun z => q8 z.set_val, fun z => q9 z.set_val, q10.move le rfl fun b o _ z1 z2 z3 z4 _ _ => ⟨z1, by rw [hp b (fun z => z4 (z ▸ ow))]; exact z2, z3, fun z => z4 z.set_val⟩⟩
theorem tev_var {i : Nat} {Q : VK} (h : TEv K (eVar i) σ H Q) : tVar i σ H Q := by
  obtain ⟨S, F, ρ, dk, d, ρ', dk', r, e, q⟩ := h
  unfold eVar at e
  split at e
  · rename_i c hc
    cases e
    obtain ⟨v, h1, h2⟩ := r.env i _ hc
    exact ⟨v, h1, q v H S (Le.refl S) r h2⟩
  · rename_i c hc
    cases e
    obtain ⟨p, o, h1, ho, r', le, hr⟩ := r.freeze hc
    exact ⟨.ref p, h1, q _ H _ le r' hr⟩
  · cases e
theorem tev_c {v : V} {d : D} {Q : VK} (hv : ∀ S, Rp K S v d) (h : TEv K (eC d) σ H Q) : tC v σ H Q := by
  obtain ⟨S, F, ρ, dk, d, ρ', dk', r, e, q⟩ := h
  cases e
  exact q v H S (Le.refl S) r (hv S)
end
def OpD (K : PySem.W.Frag) (r : R2) (g : D → D → Option D) : Prop := ∀ (S : Sx) (H : Hp) (x y : V) (d e z : D) (Q : VK), Sub S.hp H → Rp K S x d → Rp K S y e → g d e = some z →
  (∀ w S' H', Grow S H S' H' → Rp K S' w z → Q w H') → r x y H Q
def UnD (K : PySem.W.Frag) (r : V → Hp → VK → Prop) (g : D → Option D) : Prop := ∀ (S : Sx) (H : Hp) (x : V) (d z : D) (Q : VK), Sub S.hp H → Rp K S x d → g d = some z →
  (∀ w S' H', Grow S H S' H' → Rp K S' w z → Q w H') → r x H Q
def CallD (K : PySem.W.Frag) (r : List V → Hp → VK → Prop) (g : List D → Option D) : Prop := ∀ (S : Sx) (H : Hp) (xs : List V) (ds : List D) (z : D) (Q : VK), Sub S.hp H → RpL K S xs ds → g ds = some z →
  (∀ w S' H', Grow S H S' H' → Rp K S' w z → Q w H') → r xs H Q
/-- a two-place operation -/
def OpX (X : Cx) (f : Value → Value → Sem Value) (g : D → D → Option D) : Prop := ∃ r, OpR X f r ∧ OpD X.K r g
def UnX (X : Cx) (f : Value → Sem Value) (g : D → Option D) : Prop := ∃ r, UnR X f r ∧ UnD X.K r g
def CallX (X : Cx) (f : Value) (g : List D → Option D) : Prop := ∃ r, CallR X f r ∧ CallD X.K r g
def IxX (X : Cx) (g : D → D → Option D) : Prop := ∃ r, IxR X r ∧ OpD X.K r g
section
variable {K : PySem.W.Frag} {σ : L2.St} {H : Hp} {Q : VK}
theorem tev_op {r : R2} {g : D → D → Option D} {fa fb : E} (hr : OpD K r g) (h : TEv K (eOp g fa fb) σ H Q) : tOp r (TEv K fa) (TEv K fb) σ H Q := by
  obtain ⟨S, F, ρ, dk, d, ρ', dk', R, e, q⟩ := h
  unfold eOp at e
  cases ea : fa ρ dk with
  | none => rw [ea] at e; cases e
  | some xa =>
    obtain ⟨da, ρ1, k1⟩ := xa
    rw [ea] at e
    simp only [Option.bind_some] at e
    cases eb : fb ρ1 k1 with
    | none => rw [eb] at e; cases e
    | some xb =>
      obtain ⟨db, ρ2, k2⟩ := xb
      rw [eb] at e
      simp only [Option.bind_some] at e
      cases eg : g da db with
      | none => rw [eg] at e; cases e
      | some z =>
        rw [eg] at e
        simp only [Option.map_some] at e
        cases e
        refine ⟨S, F, ρ, dk, da, ρ1, k1, R, ea, fun v H1 S1 l1 R1 rv => ⟨S1, F, ρ1, k1, db, _, _, R1, eb, fun u H2 S2 l2 R2 ru => ?_⟩⟩
        exact hr S2 H2 v u da db _ Q R2.sh (rv.mono l2) ru eg fun w S' H' gr rw' => q w H' S' ((l1.trans l2).trans gr.le) (R2.grow gr) rw'
theorem tev_un {r : V → Hp → VK → Prop} {g : D → Option D} {fa : E} (hr : UnD K r g) (h : TEv K (eUn g fa) σ H Q) : tUn r (TEv K fa) σ H Q := by
  obtain ⟨S, F, ρ, dk, d, ρ', dk', R, e, q⟩ := h
  unfold eUn at e
  cases ea : fa ρ dk with
  | none => rw [ea] at e; cases e
  | some xa =>
    obtain ⟨da, ρ1, k1⟩ := xa
    rw [ea] at e
    simp only [Option.bind_some] at e
    cases eg : g da with
    | none => rw [eg] at e; cases e
    | some z =>
      rw [eg] at e
      simp only [Option.map_some] at e
      cases e
      refine ⟨S, F, ρ, dk, da, _, _, R, ea, fun v H1 S1 l1 R1 rv => ?_⟩
      exact hr S1 H1 v da _ Q R1.sh rv eg fun w S' H' gr rw' => q w H' S' (l1.trans gr.le) (R1.grow gr) rw'
theorem tav_nil {Q : List V → Hp → Prop} (h : TAv K aNil σ H Q) : tNil σ H Q := by
  obtain ⟨S, F, ρ, dk, d, ρ', dk', R, e, q⟩ := h
  cases e
  exact q _ H S (Le.refl S) R .nil
theorem tav_cons {fa : E} {fs : EL} {Q : List V → Hp → Prop} (h : TAv K (aCons fa fs) σ H Q) : tCons (TEv K fa) (TAv K fs) σ H Q := by
  obtain ⟨S, F, ρ, dk, d, ρ', dk', R, e, q⟩ := h
  unfold aCons at e
  cases ea : fa ρ dk with
  | none => rw [ea] at e; cases e
  | some xa =>
    obtain ⟨da, ρ1, k1⟩ := xa
    rw [ea] at e
    simp only [Option.bind_some] at e
    cases eb : fs ρ1 k1 with
    | none => rw [eb] at e; cases e
    | some xb =>
      obtain ⟨db, ρ2, k2⟩ := xb
      rw [eb] at e
      cases e
      refine ⟨S, F, ρ, dk, da, ρ1, k1, R, ea, fun v H1 S1 l1 R1 rv => ⟨S1, F, ρ1, k1, db, _, _, R1, eb, fun u H2 S2 l2 R2 ru => ?_⟩⟩
      exact q _ H2 S2 (l1.trans l2) R2 (.cons (rv.mono l2) ru)
/-- an argument list, then something by its values -/
theorem tev_app {t : TA → TE} {r : List V → Hp → VK → Prop} {g : List D → Option D} {fs : EL} (ht : ∀ t' σ H Q, t' σ H (fun xs H1 => r xs H1 Q) → t t' σ H Q) (hr : CallD K r g) (h : TEv K (eApp g fs) σ H Q) : t (TAv K fs) σ H Q := by
  obtain ⟨S, F, ρ, dk, d, ρ', dk', R, e, q⟩ := h
  unfold eApp at e
  cases ea : fs ρ dk with
  | none => rw [ea] at e; cases e
  | some xa =>
    obtain ⟨da, ρ1, k1⟩ := xa
    rw [ea] at e
    simp only [Option.bind_some] at e
    cases eg : g da with
    | none => rw [eg] at e; cases e
    | some z =>
      rw [eg] at e
      simp only [Option.map_some] at e
      cases e
      refine ht _ σ H Q ⟨S, F, ρ, dk, da, _, _, R, ea, fun v H1 S1 l1 R1 rv => ?_⟩
      exact hr S1 H1 v da _ Q R1.sh rv eg fun w S' H' gr rw' => q w H' S' (l1.trans gr.le) (R1.grow gr) rw'
theorem tev_tup {fs : EL} (h : TEv K (eApp (fun ds => if ds.length ≤ sizeLine then some (.tup ds) else none) fs) σ H Q) : tTup (TAv K fs) σ H Q := by
  refine tev_app (t := tTup) (r := fun xs H1 Q => xs.length ≤ sizeLine ∧ ∀ p, H1 p = none → Q (.ref p) (upd H1 p (.tup xs))) (fun _ _ _ _ h => h) (fun S H xs ds z Q sh r e q => ?_) h
  split at e
  · rename_i hl
    cases e
    exact ⟨by rw [r.length]; exact hl, fun p hp => q _ _ _ (Grow.add sh hp) (.tup (.inl (.inl Sx.add_at)) (r.mono (Grow.add sh hp).le))⟩
  · cases e
theorem tev_lst {fs : EL} (h : TEv K (eApp (fun ds => if ds.length ≤ sizeLine then some (.lst ds) else none) fs) σ H Q) : tLst (TAv K fs) σ H Q := by
  refine tev_app (t := tLst) (r := fun xs H1 Q => xs.length ≤ sizeLine ∧ ∀ p, H1 p = none → Q (.ref p) (upd H1 p (.lst xs))) (fun _ _ _ _ h => h) (fun S H xs ds z Q sh r e q => ?_) h
  split at e
  · rename_i hl
    cases e
    exact ⟨by rw [r.length]; exact hl, fun p hp => q _ _ _ (Grow.add sh hp) (.lst Sx.add_at (r.mono (Grow.add sh hp).le))⟩
  · cases e
theorem tev_and {fa fb : E} (h : TEv K (eAnd fa fb) σ H Q) : tAndV (TEv K fa) (TEv K fb) σ H Q := by
  obtain ⟨S, F, ρ, dk, d, ρ', dk', R, e, q⟩ := h
  unfold eAnd at e
  cases ea : fa ρ dk with
  | none => rw [ea] at e; cases e
  | some xa =>
    obtain ⟨da, ρ1, k1⟩ := xa
    rw [ea] at e
    simp only [Option.bind_some] at e
    refine ⟨S, F, ρ, dk, da, ρ1, k1, R, ea, fun v H1 S1 l1 R1 rv => ?_⟩
    split at e
    · cases rv
      exact ⟨true, rfl, S1, F, ρ1, k1, _, _, _, R1, e, fun u H2 S2 l2 R2 ru => q u H2 S2 (l1.trans l2) R2 ru⟩
    · cases rv
      cases e
      exact ⟨false, rfl, q _ H1 S1 l1 R1 (.bl false)⟩
    · cases e
theorem tev_or {fa fb : E} (h : TEv K (eOr fa fb) σ H Q) : tOrV (TEv K fa) (TEv K fb) σ H Q := by
  obtain ⟨S, F, ρ, dk, d, ρ', dk', R, e, q⟩ := h
  unfold eOr at e
  cases ea : fa ρ dk with
  | none => rw [ea] at e; cases e
  | some xa =>
    obtain ⟨da, ρ1, k1⟩ := xa
    rw [ea] at e
    simp only [Option.bind_some] at e
    refine ⟨S, F, ρ, dk, da, ρ1, k1, R, ea, fun v H1 S1 l1 R1 rv => ?_⟩
    split at e
    · cases rv
      exact ⟨false, rfl, S1, F, ρ1, k1, _, _, _, R1, e, fun u H2 S2 l2 R2 ru => q u H2 S2 (l1.trans l2) R2 ru⟩
    · cases rv
      cases e
      exact ⟨true, rfl, q _ H1 S1 l1 R1 (.bl true)⟩
    · cases e
theorem tev_not {fa : E} (h : TEv K (eNot fa) σ H Q) : tNotV (TEv K fa) σ H Q := by
  obtain ⟨S, F, ρ, dk, d, ρ', dk', R, e, q⟩ := h
  unfold eNot eUn at e
  cases ea : fa ρ dk with
  | none => rw [ea] at e; cases e
  | some xa =>
    obtain ⟨da, ρ1, k1⟩ := xa
    rw [ea] at e
    simp only [Option.bind_some] at e
    refine ⟨S, F, ρ, dk, da, ρ1, k1, R, ea, fun v H1 S1 l1 R1 rv => ?_⟩
    cases da with
    | bl b =>
      cases rv
      cases e
      exact ⟨b, rfl, q _ H1 S1 l1 R1 (.bl _)⟩
    | _ => cases e
/-- a test's reading from a value's -/
theorem ttv_val {f : E} {Q : Bool → Hp → Prop} (h : TTv K f σ H Q) : TEv K f σ H fun x H1 => ∃ c, x = .bl c ∧ Q c H1 := by
  obtain ⟨S, F, ρ, dk, b, ρ', dk', R, e, q⟩ := h
  refine ⟨S, F, ρ, dk, _, ρ', dk', R, e, fun v H' S' l R' rv => ?_⟩
  cases rv
  exact ⟨b, rfl, q H' S' l R'⟩
theorem ttv_not {f : E} {Q : Bool → Hp → Prop} (h : TTv K (eNot f) σ H Q) : tNot (TTv K f) σ H Q := by
  obtain ⟨S, F, ρ, dk, b, ρ', dk', R, e, q⟩ := h
  unfold eNot eUn at e
  cases ea : f ρ dk with
  | none => rw [ea] at e; cases e
  | some xa =>
    obtain ⟨da, ρ1, k1⟩ := xa
    rw [ea] at e
    simp only [Option.bind_some] at e
    cases da with
    | bl c =>
      cases e
      exact ⟨S, F, ρ, dk, c, _, _, R, ea, fun H1 S1 l1 R1 => q H1 S1 l1 R1⟩
    | _ => cases e
theorem ttv_and {fa fb : E} {Q : Bool → Hp → Prop} (h : TTv K (eAnd fa fb) σ H Q) : tAnd (TTv K fa) (TTv K fb) σ H Q := by
  obtain ⟨S, F, ρ, dk, b, ρ', dk', R, e, q⟩ := h
  unfold eAnd at e
  cases ea : fa ρ dk with
  | none => rw [ea] at e; cases e
  | some xa =>
    obtain ⟨da, ρ1, k1⟩ := xa
    rw [ea] at e
    simp only [Option.bind_some] at e
    split at e
    · refine ⟨S, F, ρ, dk, true, ρ1, k1, R, ea, fun H1 S1 l1 R1 => ?_⟩
      exact ⟨S1, F, ρ1, k1, _, _, _, R1, e, fun H2 S2 l2 R2 => q H2 S2 (l1.trans l2) R2⟩
    · cases e
      exact ⟨S, F, ρ, dk, false, _, _, R, ea, fun H1 S1 l1 R1 => q H1 S1 l1 R1⟩
    · cases e
theorem ttv_or {fa fb : E} {Q : Bool → Hp → Prop} (h : TTv K (eOr fa fb) σ H Q) : tOr (TTv K fa) (TTv K fb) σ H Q := by
  obtain ⟨S, F, ρ, dk, b, ρ', dk', R, e, q⟩ := h
  unfold eOr at e
  cases ea : fa ρ dk with
  | none => rw [ea] at e; cases e
  | some xa =>
    obtain ⟨da, ρ1, k1⟩ := xa
    rw [ea] at e
    simp only [Option.bind_some] at e
    split at e
    · refine ⟨S, F, ρ, dk, false, ρ1, k1, R, ea, fun H1 S1 l1 R1 => ?_⟩
      exact ⟨S1, F, ρ1, k1, _, _, _, R1, e, fun H2 S2 l2 R2 => q H2 S2 (l1.trans l2) R2⟩
    · cases e
      exact ⟨S, F, ρ, dk, true, _, _, R, ea, fun H1 S1 l1 R1 => q H1 S1 l1 R1⟩
    · cases e
theorem tev_if {fc fa fb : E} (h : TEv K (eIf fc fa fb) σ H Q) : tIf (TTv K fc) (TEv K fa) (TEv K fb) σ H Q := by
  obtain ⟨S, F, ρ, dk, d, ρ', dk', R, e, q⟩ := h
  unfold eIf at e
  cases ea : fc ρ dk with
  | none => rw [ea] at e; cases e
  | some xa =>
    obtain ⟨da, ρ1, k1⟩ := xa
    rw [ea] at e
    simp only [Option.bind_some] at e
    split at e
    · refine ⟨S, F, ρ, dk, true, ρ1, k1, R, ea, fun H1 S1 l1 R1 => ?_⟩
      exact ⟨S1, F, ρ1, k1, _, _, _, R1, e, fun v H2 S2 l2 R2 rv => q v H2 S2 (l1.trans l2) R2 rv⟩
    · refine ⟨S, F, ρ, dk, false, ρ1, k1, R, ea, fun H1 S1 l1 R1 => ?_⟩
      exact ⟨S1, F, ρ1, k1, _, _, _, R1, e, fun v H2 S2 l2 R2 rv => q v H2 S2 (l1.trans l2) R2 rv⟩
    · cases e
end
def gTupD (ds : List D) : Option D := if ds.length ≤ sizeLine then some (.tup ds) else none
def gLstD (ds : List D) : Option D := if ds.length ≤ sizeLine then some (.lst ds) else none
section
variable {X : Cx} {a b c : Expr} {es rest : List Expr} {fa fb fc : E} {fs : EL} {pos : Pos}
theorem d_int {i j} : PE X (.Constant (.int i) j pos) (TEv X.K (eC (.int i))) := pe_int.imp fun _ _ _ h => tev_c (fun _ => .int i) h
theorem d_bl {i j} : PE X (.Constant (.bool i) j pos) (TEv X.K (eC (.bl i))) := pe_bl.imp fun _ _ _ h => tev_c (fun _ => .bl i) h
theorem d_non {j} : PE X (.Constant .none j pos) (TEv X.K (eC .non)) := pe_non.imp fun _ _ _ h => tev_c (fun _ => .non) h
theorem d_str {i j} : PE X (.Constant (.str i) j pos) (TEv X.K (eC (.str i))) := pe_str.imp fun _ _ _ h => tev_c (fun _ => .str i) h
theorem d_var {i : Nat} {x : Str} (hN : X.N[i]? = some x) (hv : Vis X.env.scope x) (hd : (x == ("__debug__" : Str)) = false := by decide) (hcd : (x == ("__classdict__" : Str)) = false := by decide) : PE X (.Name x pos) (TEv X.K (eVar i)) :=
  (pe_var hN hv hd hcd).imp fun _ _ _ h => tev_var h
theorem d_op {op : Operator} {g : D → D → Option D} (ho : OpX X (binaryOp op) g) (ha : PE X a (TEv X.K fa)) (hb : PE X b (TEv X.K fb)) : PE X (.BinOp a op b pos) (TEv X.K (eOp g fa fb)) := by
  obtain ⟨r, h1, h2⟩ := ho
  exact (pe_op h1 ha hb).imp fun _ _ _ h => tev_op h2 h
theorem d_un {op : UnaryOp} {g : D → Option D} (ho : UnX X (unaryOp op) g) (ha : PE X a (TEv X.K fa)) : PE X (.UnaryOp op a pos) (TEv X.K (eUn g fa)) := by
  obtain ⟨r, h1, h2⟩ := ho
  exact (pe_un h1 ha).imp fun _ _ _ h => tev_un h2 h
theorem d_cmp {op : CmpOp} {g : D → D → Option D} (ho : OpX X (compareOp op) g) (ha : PE X a (TEv X.K fa)) (hb : PE X b (TEv X.K fb)) (hm : behindInMarks op b = false) : PE X (.Compare a [op] [b] pos) (TEv X.K (eOp g fa fb)) := by
  obtain ⟨r, h1, h2⟩ := ho
  exact (pe_cmpR h1 ha hb hm).imp fun _ _ _ h => tev_op h2 h
theorem d_ix {g : D → D → Option D} (ho : IxX X g) (ha : PE X a (TEv X.K fa)) (hb : PE X b (TEv X.K fb)) (hs : PlainIx b) : PE X (.Subscript a b pos) (TEv X.K (eOp g fa fb)) := by
  obtain ⟨r, h1, h2⟩ := ho
  exact (pe_ix h1 ha hb hs).imp fun _ _ _ h => tev_op h2 h
theorem d_not (ha : PE X a (TEv X.K fa)) : PE X (.UnaryOp .Not a pos) (TEv X.K (eNot fa)) := (pe_not ha).imp fun _ _ _ h => tev_not h
theorem d_one {op} (ha : PE X a (TEv X.K fa)) : PE X (.BoolOp op [a] pos) (TEv X.K fa) := pe_one ha
theorem d_and (ha : PE X a (TEv X.K fa)) (hb : PE X (.BoolOp .And (b :: rest) pos) (TEv X.K fb)) : PE X (.BoolOp .And (a :: b :: rest) pos) (TEv X.K (eAnd fa fb)) := (pe_and ha hb).imp fun _ _ _ h => tev_and h
theorem d_or (ha : PE X a (TEv X.K fa)) (hb : PE X (.BoolOp .Or (b :: rest) pos) (TEv X.K fb)) : PE X (.BoolOp .Or (a :: b :: rest) pos) (TEv X.K (eOr fa fb)) := (pe_or ha hb).imp fun _ _ _ h => tev_or h
theorem d_ifx (hc : PT X c (TTv X.K fc)) (ha : PE X a (TEv X.K fa)) (hb : PE X b (TEv X.K fb)) : PE X (.IfExp c a b pos) (TEv X.K (eIf fc fa fb)) := (pe_ifExp hc ha hb).imp fun _ _ _ h => tev_if h
theorem a_nil : PA X [] (TAv X.K aNil) := pa_nil.imp fun _ _ _ h => tav_nil h
theorem a_cons (ha : PE X a (TEv X.K fa)) (hr : PA X es (TAv X.K fs)) (hs : starEach (a :: es) X.env = (false, eval a X.env) :: starEach es X.env := by kernel_rfl!) : PA X (a :: es) (TAv X.K (aCons fa fs)) :=
  (pa_cons ha hr hs).imp fun _ _ _ h => tav_cons h
theorem d_tup {x1} (h : PA X es (TAv X.K fs)) : PE X (.Tuple es x1 pos) (TEv X.K (eApp gTupD fs)) := (pe_tup h).imp fun _ _ _ h => tev_tup h
theorem d_lst (h : PA X es (TAv X.K fs)) : PE X (.List es pos) (TEv X.K (eApp gLstD fs)) := (pe_lst h).imp fun _ _ _ h => tev_lst h
theorem d_callB {id : String} {x : Str} {p : Pos} {g : List D → Option D} (hc : CallX X (.builtin id) g) (hg : Gl X x) (hm : X.mg x = none) (hv : bootBuiltins x = some (.builtin id)) (ha : PA X (a :: es) (TAv X.K fs)) (hn : x ≠ "__name__" := by decide) (hdb : (x == ("__debug__" : Str)) = false := by decide)
    (he : starEach (a :: es) X.env = (false, eval a X.env) :: starEach es X.env := by kernel_rfl!) (hpl : (backTo pos (starEach es X.env)).any (·.1) = false := by kernel_rfl!) : PE X (.Call (.Name x p) (a :: es) [] pos) (TEv X.K (eApp g fs)) := by
  obtain ⟨r, h1, h2⟩ := hc
  exact (pe_callB h1 hg hm hv ha hn hdb he hpl).imp fun _ _ _ h => tev_app (t := tCB r) (r := r) (fun _ _ _ _ h => h) h2 h
theorem d_callTy {T : String} {x : Str} {p : Pos} {g : List D → Option D} (hc : CallX X (.type T) g) (hg : Gl X x) (hm : X.mg x = none) (hv : bootBuiltins x = some (.type T)) (ha : PA X (a :: es) (TAv X.K fs)) (hn : x ≠ "__name__" := by decide) (hdb : (x == ("__debug__" : Str)) = false := by decide)
    (he : starEach (a :: es) X.env = (false, eval a X.env) :: starEach es X.env := by kernel_rfl!) (hpl : (backTo pos (starEach es X.env)).any (·.1) = false := by kernel_rfl!) : PE X (.Call (.Name x p) (a :: es) [] pos) (TEv X.K (eApp g fs)) := by
  obtain ⟨r, h1, h2⟩ := hc
  exact (pe_callTy h1 hg hm hv ha hn hdb he hpl).imp fun _ _ _ h => tev_app (t := tCB r) (r := r) (fun _ _ _ _ h => h) h2 h
theorem q_val (h : PE X a (TEv X.K fa)) (he : ∀ whole, isTrue a X.env whole = (do let v ← whole; standAt a.pos; holding [v] (truthy v)) := by intro _; kernel_rfl!) : PT X a (TTv X.K fa) := (pt_val h he).imp fun _ _ _ h => ttv_val h
theorem q_cmp {op : CmpOp} {g : D → D → Option D} (ho : OpX X (compareOp op) g) (ha : PE X a (TEv X.K fa)) (hb : PE X b (TEv X.K fb)) (hm : behindInMarks op b = false) : PT X (.Compare a [op] [b] pos) (TTv X.K (eOp g fa fb)) := by
  obtain ⟨r, h1, h2⟩ := ho
  exact (pt_cmpR h1 ha hb hm).imp fun _ _ _ h => tev_op h2 (ttv_val h)
theorem q_not (ha : PT X a (TTv X.K fa)) : PT X (.UnaryOp .Not a pos) (TTv X.K (eNot fa)) := (pt_not ha).imp fun _ _ _ h => ttv_not h
theorem _root_.L2.PW.imp {X : Cx} {e : Expr} {t t' : TT} (h : PW X e t) (i : ∀ σ H Q, t' σ H Q → t σ H Q) : PW X e t' := ⟨fun wh pins s σ H Q I q => h.run wh pins s σ H Q I (i _ _ _ q)⟩
theorem w_and1 (ha : PT X a (TTv X.K fa)) : PW X (.BoolOp .And [a] pos) (TTv X.K fa) := pw_and1 ha
theorem w_or1 (ha : PT X a (TTv X.K fa)) : PW X (.BoolOp .Or [a] pos) (TTv X.K fa) := pw_or1 ha
theorem w_and (ha : PT X a (TTv X.K fa)) (hb : PW X (.BoolOp .And (b :: rest) pos) (TTv X.K fb)) : PW X (.BoolOp .And (a :: b :: rest) pos) (TTv X.K (eAnd fa fb)) := (pw_and ha hb).imp fun _ _ _ h => ttv_and h
theorem w_or (ha : PT X a (TTv X.K fa)) (hb : PW X (.BoolOp .Or (b :: rest) pos) (TTv X.K fb)) : PW X (.BoolOp .Or (a :: b :: rest) pos) (TTv X.K (eOr fa fb)) := (pw_or ha hb).imp fun _ _ _ h => ttv_or h
end
end WS
namespace WS
open PySem PySem.Spec PyProof.Rows L2
structure FnG (P : Program) (w : World) (K : PySem.W.Frag) (mg : Str → Option Value) (base : Heap) (CX : CXT) (k : Nat) (f : Addr) (fd : FuncData) (ps : List Str) (sp : Sp) : Prop where
  many : ∀ vs H Q E, sp vs H Q E → vs.length = ps.length
  go : ∀ (A : Around) (outer : List Env) (s : Shared) (H : Hp) (args : Args) (us : List Value) (vs : List V) (Q : VK) (E : XK), A.guards = some [] → Room k A →
    Env0 P w K mg base A outer s H → BindsTo s fd args (ps.zip us) → Vals vs us → sp vs H Q E → codeAny (model P w) A (.call (.ref f) args) (CR CX outer P w H s Q E) s
section
variable {P : Program} {w : World} {K : PySem.W.Frag} {mg : Str → Option Value} {base : Heap} {CX : CXT} {j k : Nat} {f : Addr} {fd : FuncData} {ps : List Str} {sp : Sp}
theorem FnG.up (F : FnG P w K mg base CX j f fd ps sp) (h : j ≤ k) : FnG P w K mg base CX k f fd ps sp :=
  { many := F.many, go := fun A outer s H args us vs Q E hg hr e b v q => F.go A outer s H args us vs Q E hg (hr.mono h) e b v q }
/-- by its body -/
theorem fnG {name qual : Str} {params : Arguments} {body : List Stmt} {scope : Scope} {dV kV doc pm cdv ct oc : Value} {an od : Option Addr} {osl : Array (Option Value)} {N : List Str}
    (found : K.lookup f = some ⟨oc, od, .func (PySem.W.fnOf name qual params body scope dV kV doc pm an cdv ct), osl⟩) (code : PySem.W.codeIn K cdv qual = true) (SC : FnScope N ps scope)
    (many : ∀ vs H Q E, sp vs H Q E → vs.length = ps.length)
    (hb : ∀ (A : Around) (outer : List Env) (s : Shared) (H : Hp) (vs : List V) (Q : VK) (E : XK), A.guards = some [] → Room k (A.deeper (envOfC qual scope s.heap.objs.size f cdv)) → sp vs H Q E →
      ∃ t, PSs (cxOf CX P w K mg base N qual scope f cdv A outer s H E) body t ∧ t { nx := fun _ H' => Q .non H', rt := Q } (start N vs) H) :
    FnG P w K mg base CX (k + 1) f (PySem.W.fnOf name qual params body scope dV kV doc pm an cdv ct) ps sp where
  many := many
  go := fun A outer s H args us vs Q E hg hr e0 bd rv hsp => by
    have hlen := many vs H Q E hsp
    have inK : K.In s.heap := e0.mod.kin.keeps fun b o e => (e0.bs b o e).1
    have noL : s.heap.NoLimit := e0.mod.nolimit.keeps fun b o e => (e0.bs b o e).1
    have kinds : ∀ y ∈ ps.zip us, scope.names.lookup y.1 = some .local ∨ (scope.names.lookup y.1 = some .cell ∧ ((cellsFrom (s.heap.objs.size + 1) scope.names []).lookup y.1).isSome = true) := by
      intro y hy
      obtain ⟨n, v⟩ := y
      have hn : n ∈ ps := (List.of_mem_zip hy).1
      cases SC.par n hn with
      | inl q => exact Or.inl q
      | inr q => exact Or.inr ⟨q, PySem.W.cellsFrom_some _ _ _ (.inl q)⟩
    refine codeAny_call_function hr.depth (inK _ _ found) rfl SC.co SC.gen rfl (PySem.W.codeRec_of inK code) (bd _ _ _ _ ?_)
    refine wpAny_newFunctionEnv_cells SC.kind kinds fun env henv s1 inCall => ?_
    subst henv
    refine ⟨noL.keeps inCall.toInCall.keep, codeAny_func ?_⟩
    obtain ⟨t, ht, hq⟩ := hb A outer s H vs Q E hg (hr.deeper _) hsp
    have J0 := inv_start (CX := CX) (P := P) (w := w) (K := K) (mg := mg) (base := base) (qual := qual) (f := f) (cd := cdv) (E := E) SC hr.hd e0 hlen rv inCall
    refine wpAny_mono (ht.run [] s1 (start N vs) H _ J0 hq) ?_ (fun e s' he => he)
    intro fl s' hs
    cases fl with
    | ret u =>
      obtain ⟨v, σ', H', J, r', q⟩ := hs
      exact ⟨v, H', J.os, J.bare, J.base, J.hok, r', q⟩
    | next =>
      obtain ⟨σ', H', J, q⟩ := hs
      exact ⟨V.non, H', J.os, J.bare, J.base, J.hok, rfl, q⟩
    | brk => obtain ⟨_, _, _, q⟩ := hs; exact q.elim
    | cont => obtain ⟨_, _, _, q⟩ := hs; exact q.elim
/-- .. of the text -/
theorem fnG0 {x qual : Str} {st : Stmt} {N : List Str} (F : Fun K x qual st f fd) (SC : FnScope N ps (defScope st)) (many : ∀ vs H Q E, sp vs H Q E → vs.length = ps.length)
    (hb : ∀ (cdv : Value) (A : Around) (outer : List Env) (s : Shared) (H : Hp) (vs : List V) (Q : VK) (E : XK), A.guards = some [] → Room k (A.deeper (envOfC qual (defScope st) s.heap.objs.size f cdv)) → sp vs H Q E →
      ∃ t, PSs (cxOf CX0 P w K mg base N qual (defScope st) f cdv A outer s H E).nox (defBody st) t ∧ t { nx := fun _ H' => Q .non H', rt := Q } (start N vs) H) : FnG P w K mg base CX0 (k + 1) f fd ps sp := by
  obtain ⟨oc, od, kV, doc, pm, an, cdv, ct, osl, rfl, found, code⟩ := F.ex
  refine fnG found code SC many fun A outer s H vs Q E hg hr hsp => ?_
  obtain ⟨t, h1, h2⟩ := hb cdv A outer s H vs Q E hg hr hsp
  exact ⟨t, h1.nox, h2⟩
end
section
variable {X : Cx} {CX : CXT} {k : Nat} {f : Addr} {fd : FuncData} {ps : List Str} {sp : Sp} {dvs : List V} {ds : List Value} {E : XK} {x : Str} {p pos : Pos} {e : Expr} {es : List Expr} {t : TA}
theorem goG {pins : List (Addr × Obj)} {σ : L2.St} {H : Hp} {s : Shared} {Q : VK} {us : List Value} {vs : List V} (F : FnG X.prog X.w X.K X.mg X.base CX k f fd ps sp) (hg : X.A.guards = some []) (hr : Room k X.A) (hb : Binds X.K fd ps ds) (hd : Vals dvs ds) (hx : Passes CX X E)
    (I : Inv X pins σ H s) (r : Vals vs us) (h : sp (vs ++ dvs) H Q E) : wpAny (model X.prog X.w) X.A (call (.ref f) us) (EP X pins σ Q) X.xe s := by
  have rr : Vals (vs ++ dvs) (us ++ ds) := r.append hd
  have ll : (us ++ ds).length = ps.length := by rw [← rr.length]; exact F.many _ _ _ _ h
  refine wpAny_call (codeAny_mono (F.go X.A X.stack s H ⟨us, []⟩ _ _ Q E hg hr I.env0 (hb s us I.kIn ll) rr h) ?_)
  intro res s' hq
  cases res with
  | error err => exact hx pins σ H s err s' I hq
  | ok fl =>
    cases fl with
    | ret u => exact I.after hq
    | next => exact hq.elim
    | brk => exact hq.elim
    | cont => exact hq.elim
theorem callG (F : FnG X.prog X.w X.K X.mg X.base CX k f fd ps sp) (hgu : X.A.guards = some []) (hr : Room k X.A) (hg : Gl X x) (hm : X.mg x = some (.ref f)) (hk : PySem.W.keepIn X.K (.ref f) = true) (hb : Binds X.K fd ps ds) (hd : Vals dvs ds) (hx : Passes CX X E)
    (ha : PA X (e :: es) t) (hdb : (x == ("__debug__" : Str)) = false := by decide) (he : starEach (e :: es) X.env = (false, eval e X.env) :: starEach es X.env := by rfl) (hpl : (backTo pos (starEach es X.env)).any (·.1) = false := by rfl) :
    PE X (.Call (.Name x p) (e :: es) [] pos) (tCall sp dvs E t) := ⟨fun pins s σ H Q I h =>
  wpAny_Call_Name_kw (ld_glob I hg hm (PySem.W.callWith_K (h₀ := X.base) I.ok.mod.kin hk (thn (ha.run pos pins s σ H _ I h) fun us s1 ⟨vs, H1, I1, r, q⟩ => ⟨I1.kIn, goG F hgu hr hb hd hx I1 r q⟩) he hpl) hdb)⟩
theorem callG0 (F : FnG X.prog X.w X.K X.mg X.base CX k f fd ps sp) (hgu : X.A.guards = some []) (hr : Room k X.A) (hg : Gl X x) (hm : X.mg x = some (.ref f)) (hk : PySem.W.keepIn X.K (.ref f) = true) (hb : Binds X.K fd ps ds) (hd : Vals dvs ds) (hx : Passes CX X E)
    (hdb : (x == ("__debug__" : Str)) = false := by decide) : PE X (.Call (.Name x p) [] [] pos) (tCall sp dvs E tNil) := ⟨fun pins s σ H Q I h =>
  wpAny_Call_Name_kw (ld_glob I hg hm (PySem.W.callWith_K0 I.kIn hk (goG (us := []) F hgu hr hb hd hx I .nil h)) hdb)⟩
end
section
variable {P : Program} {w : World} {K : PySem.W.Frag} {mg mb : Str → Option Value} {CX : CXT} {k : Nat} {fa a : Addr} {fd : FuncData} {x : Str} {sp : Sp} {s₁ : Shared} {vs : List Value} {ns : List Int}
theorem law_go {H : Hp} (KX : K.In s₁.heap) (hns : s₁.heap.Ns mainGlobals mg) (hb : s₁.heap.Ns builtinsNs mb) (hbb : ∀ x : Str, x ≠ "__name__" → mb x = bootBuiltins x) (hlim : s₁.heap.NoLimit) (hg : s₁.gens = #[])
    (ha : s₁.heap.get? a = some { cls := .type "list", data := .seq vs.toArray }) (hr : Room k callerA)
    (F : ∀ base : Heap, K.In base → base.Ns mainGlobals mg → FnG P w K mg base CX k fa fd [x] sp) (hbind : ∀ (s : Shared) (u : Value), BindsTo s fd ⟨[u], []⟩ [(x, u)])
    (hO : Only H) (hok : HOk P w H s₁.heap) (hA : ∀ b, H b ≠ none → b = a) (hK : H a ≠ none → K.lookup a = none)
    (hsp : sp [.ref a] H (fun v _ => v = .bl true) fun _ _ _ => False) (hCX : ∀ e s', CX [] H s₁ (fun _ _ _ => False) e s' → False) :
    codeAny (model P w) callerA (.call (.ref fa) ⟨[.ref a], []⟩) (fun r s' => r = .ok (.ret (.bool true)) ∧ OldK s₁.heap s'.heap ∧ s'.os = s₁.os ∧ AllBare s'.gens) s₁ := by
  have alone : ∀ {b : Addr} {o : Obj}, s₁.heap.get? b = some o → (∀ n, o.data ≠ .seq vs.toArray n) → H b = none := by
    intro b o e d
    cases q : H b with
    | none => rfl
    | some u =>
      have hb' : b = a := hA b (by rw [q]; intro z; cases z)
      rw [hb', ha] at e
      cases e
      exact absurd rfl (d _)
  have dictN : ∀ {b : Addr} {m : Str → Option Value}, s₁.heap.Ns b m → (hidT s₁.heap H).Ns b m := by
    intro b m h
    obtain ⟨o, es, ep, e, d, r⟩ := h
    exact ⟨o, es, ep, hidT_get e (alone e fun n z => by rw [d] at z; cases z), d, r⟩
  have inB : K.In (hidT s₁.heap H) := fun b o e => hidT_get (KX b o e) (by
    cases q : H b with
    | none => rfl
    | some u =>
      have hb' : b = a := hA b (by rw [q]; intro z; cases z)
      subst hb'
      rw [hK (by rw [q]; intro z; cases z)] at e; cases e)
  have lim2 : (hidT s₁.heap H).NoLimit := by
    obtain ⟨mc, h1, h2⟩ := hlim
    exact ⟨mc, dictN h1, h2⟩
  have M : Mod K mg (hidT s₁.heap H) := ⟨inB, dictN hns, ⟨mb, dictN hb, hbb⟩, lim2⟩
  have noM : ∀ b : Addr, b ∉ frs [] := fun b z => nomatch z
  have e0 : Env0 P w K mg (hidT s₁.heap H) callerA [] s₁ H := ⟨rfl, M, fun b o e => of_hidT e, Nat.le_of_eq (hidT_size _ _), trivial, fun b z => absurd z (noM b), hok, .of_eq hg⟩
  have run := (F _ inB (dictN hns)).go callerA [] s₁ H ⟨[.ref a], []⟩ [.ref a] [.ref a] _ _ rfl hr e0 (hbind s₁ (.ref a)) (.cons rfl .nil) hsp
  refine codeAny_mono run ?_
  intro r s' h
  cases r with
  | error e => exact (hCX e s' h).elim
  | ok fl =>
    cases fl with
    | next => exact h.elim
    | brk => exact h.elim
    | cont => exact h.elim
    | ret u =>
      obtain ⟨v, H', os, bare, un, ok2, rv, q⟩ := h
      have hv : v = .bl true := q
      subst hv
      cases rv
      refine ⟨rfl, OldK.of_keep ?_, os, bare⟩
      intro b o e
      cases q : H b with
      | none => exact un.keep b o e q (noM b) (fun z => nomatch z)
      | some u =>
        rcases hO b with z | ⟨ob, xs, z⟩
        · rw [q] at z; cases z
        · obtain ⟨e1, _⟩ := hok b _ z
          obtain ⟨e2, _⟩ := ok2 b _ (un.frzs b ob _ z)
          rw [e] at e1; cases e1
          exact e2
/-- the script's own place -/
def scriptH (a : Addr) (o : Obj) (u : HO) : Hp := fun b => if b = a then some (.frz o u) else none
theorem law_goes (KX : K.In s₁.heap) (hns : s₁.heap.Ns mainGlobals mg) (hb : s₁.heap.Ns builtinsNs mb) (hbb : ∀ x : Str, x ≠ "__name__" → mb x = bootBuiltins x) (hlim : s₁.heap.NoLimit) (hg : s₁.gens = #[])
    (ha : s₁.heap.get? a = some { cls := .type "list", data := .seq vs.toArray }) (hi : IntsAre vs ns) (hl : ns.length ≤ sizeLine) (hr : Room k callerA)
    (F : ∀ base : Heap, K.In base → base.Ns mainGlobals mg → FnG P w K mg base CX k fa fd [x] sp) (hbind : ∀ (s : Shared) (u : Value), BindsTo s fd ⟨[u], []⟩ [(x, u)])
    (hsp : ∀ H : Hp, Only H → SqL K H a (ns.map V.int) → sp [.ref a] H (fun v _ => v = .bl true) fun _ _ _ => False)
    (hCX : ∀ H e s', CX [] H s₁ (fun _ _ _ => False) e s' → False) :
    codeAny (model P w) callerA (.call (.ref fa) ⟨[.ref a], []⟩) (fun r s' => r = .ok (.ret (.bool true)) ∧ OldK s₁.heap s'.heap ∧ s'.os = s₁.os ∧ AllBare s'.gens) s₁ := by
  have rv := vals_ints hi
  have lenV := hi.length
  cases hk : K.lookup a with
  | some o =>
    have e := KX a o hk
    rw [ha] at e
    cases e
    have sq : SqL K (fun _ => none) a (ns.map V.int) := .inr ⟨_, vs.toArray, _, hk, rfl, rfl, rfl, by rw [List.size_toArray, lenV]; exact hl, by simpa using rv⟩
    exact law_go (H := fun _ => none) KX hns hb hbb hlim hg ha hr F hbind (fun _ => .inl rfl) (fun b u z => nomatch z) (fun b z => absurd rfl z) (fun z => absurd rfl z) (hsp _ (fun _ => .inl rfl) sq) fun e s' => hCX _ e s'
  | none =>
    have at_ : scriptH a { cls := .type "list", data := .seq vs.toArray } (.lst (ns.map V.int)) a = some (.frz { cls := .type "list", data := .seq vs.toArray } (.lst (ns.map V.int))) := if_pos rfl
    have off : ∀ b, b ≠ a → scriptH a { cls := .type "list", data := .seq vs.toArray } (.lst (ns.map V.int)) b = none := fun b q => if_neg q
    have only : Only (scriptH a { cls := .type "list", data := .seq vs.toArray } (.lst (ns.map V.int))) := fun b => by
      by_cases q : b = a
      · subst q; exact .inr ⟨_, _, at_⟩
      · exact .inl (off b q)
    refine law_go KX hns hb hbb hlim hg ha hr F hbind only (fun b u z => ?_) (fun b z => ?_) (fun _ => hk) (hsp _ only (.inl (.inr ⟨_, at_⟩))) fun e s' => hCX _ e s'
    · by_cases q : b = a
      · subst q
        rw [at_] at z
        cases z
        exact ⟨ha, by rw [List.length_map]; exact hl, vs, _, rv, ha⟩
      · rw [off b q] at z; cases z
    · by_cases q : b = a
      · exact q
      · exact absurd (off b q) z
end
theorem walkG {l : PySem.W.OpenLaw} {n k : Nat} {q : Program} {loose : List Str} {XP : (Str → Option Value) → Heap → Prop} {YP : World → Heap → Prop} {d : DefRec} {K : Params → PySem.W.Frag} {CX : World → CXT} {sp : World → Sp} {x : Str}
    (hn : l.most = some n) (hn2 : n ≤ sizeLine) (hdf : d.params.defaults = []) (hr : Room k callerA)
    (hY : ∀ (w : World) (h : Heap), YP w h → (K w.params).In h)
    (F : ∀ (w : World) (mg : Str → Option Value) (fa : Addr) (h : Heap), (K w.params).In h → h.Ns mainGlobals mg → mg d.name = some (.ref fa) →
      ∃ fd : FuncData, (∀ (s : Shared) (u : Value), BindsTo s fd ⟨[u], []⟩ [(x, u)]) ∧
        ∀ base : Heap, (K w.params).In base → base.Ns mainGlobals mg → FnG l.prog w (K w.params) mg base (CX w) k fa fd [x] (sp w))
    (hsp : ∀ (w : World) (H : Hp) (a : Addr) (ns : List Int), ns.length ≤ n → Only H → SqL (K w.params) H a (ns.map V.int) → sp w [.ref a] H (fun v _ => v = .bl true) fun _ _ _ => False)
    (hCX : ∀ (w : World) (H : Hp) (s : Shared) (e : Value) (s' : Shared), CX w [] H s (fun _ _ _ => False) e s' → False) :
    PySem.W.WalkO q loose XP YP l.row.toRowW d [] (fun f vs => PySem.call f vs) :=
  Att.attach_call hn hdf fun w s₀ s₁ mg mb fa o pm cd doc a vs ns G Y ho hd hcd hmg hobj hints hlen hg => by
    have inK := hY w _ Y
    obtain ⟨fd, bd, hF⟩ := F w mg fa _ inK G.T.g hmg
    exact law_goes inK G.T.g G.T.b G.T.builtins G.T.nolimit hg hobj hints (Nat.le_trans hlen hn2) hr hF bd (fun H hO hS => hsp w H a ns hlen hO hS) fun H e s' => hCX w H s₁ e s'
theorem walkGK {l : PySem.W.OpenLaw} {n k : Nat} {q : Program} {loose : List Str} {XP : (Str → Option Value) → Heap → Prop} {YP : World → Heap → Prop} {d : DefRec} {K : Params → PySem.W.Frag} {CX : CXT} {sp : PySem.W.Frag → Sp} {x : Str}
    (hn : l.most = some n) (hn2 : n ≤ sizeLine) (hdf : d.params.defaults = []) (hr : Room k callerA)
    (hY : ∀ (w : World) (h : Heap), YP w h → (K w.params).In h)
    (F : ∀ (w : World) (mg : Str → Option Value) (fa : Addr) (h : Heap), (K w.params).In h → h.Ns mainGlobals mg → mg d.name = some (.ref fa) →
      ∃ fd : FuncData, (∀ (s : Shared) (u : Value), BindsTo s fd ⟨[u], []⟩ [(x, u)]) ∧
        ∀ base : Heap, (K w.params).In base → base.Ns mainGlobals mg → FnG l.prog w (K w.params) mg base CX k fa fd [x] (sp (K w.params)))
    (hsp : ∀ (K : PySem.W.Frag) (H : Hp) (a : Addr) (ns : List Int), ns.length ≤ n → Only H → SqL K H a (ns.map V.int) → sp K [.ref a] H (fun v _ => v = .bl true) fun _ _ _ => False)
    (hCX : ∀ (H : Hp) (s : Shared) (e : Value) (s' : Shared), CX [] H s (fun _ _ _ => False) e s' → False) :
    PySem.W.WalkO q loose XP YP l.row.toRowW d [] (fun f vs => PySem.call f vs) :=
  walkG (K := K) (CX := fun _ => CX) (sp := fun w => sp (K w.params)) hn hn2 hdf hr hY F (fun w H a ns h1 h2 h3 => hsp (K w.params) H a ns h1 h2 h3) fun _ H s e s' => hCX H s e s'
end WS
namespace WS
open PySem PySem.Spec PyProof.Rows L2
/-- no exception is let out -/
def W0 : WX := fun _ _ _ _ => False
variable {W : WX}
inductive Out where
  | nx | rt (d : D) | bk | ct | ex (C : Str) (ns : List Str) (ds : List D)
abbrev SS := List Sl → Dk → Option (Out × List Sl × Dk)
def TSv (K : PySem.W.Frag) (W : WX) (f : SS) : TS := fun D' σ H => ∃ S F ρ dk o ρ' dk', Rep K σ H S F ρ dk ∧ f ρ dk = some (o, ρ', dk') ∧
  match o with
  | .nx => ∀ σ' H' S', Le S S' → Rep K σ' H' S' F ρ' dk' → D'.nx σ' H'
  | .rt d => ∀ v σ' H' S', Le S S' → Rep K σ' H' S' F ρ' dk' → Rp K S' v d → D'.rt v H'
  | .bk => ∀ σ' H' S', Le S S' → Rep K σ' H' S' F ρ' dk' → D'.bk σ' H'
  | .ct => ∀ σ' H' S', Le S S' → Rep K σ' H' S' F ρ' dk' → D'.ct σ' H'
  | .ex C ns ds => ∀ σ' H' S' cls d, Le S S' → Rep K σ' H' S' F ρ' dk' → ExRp K S' C ns ds cls d → W cls d σ' H'
def sNil : SS := fun ρ k => some (.nx, ρ, k)
def sSeq (a b : SS) : SS := fun ρ k => (a ρ k).bind fun x => match x.1 with
  | .nx => b x.2.1 x.2.2
  | _ => some x
def sRet (e : E) : SS := fun ρ k => (e ρ k).bind fun x => some (.rt x.1, x.2.1, x.2.2)
def sDrop (e : E) : SS := fun ρ k => (e ρ k).bind fun x => some (.nx, x.2.1, x.2.2)
def sIf (c : E) (a b : SS) : SS := fun ρ k => (c ρ k).bind fun x => match x.1 with
  | .bl true => a x.2.1 x.2.2
  | .bl false => b x.2.1 x.2.2
  | _ => none
abbrev Tg := D → List Sl → Option (List Sl)
def sAsg (g : Tg) (e : E) : SS := fun ρ k => (e ρ k).bind fun x => (g x.1 x.2.1).bind fun ρ' => some (.nx, ρ', x.2.2)
def gSet (i : Nat) : Tg := fun d ρ => some (ρ.set i (.val d))
section
variable {K : PySem.W.Frag} {σ : L2.St} {H H' : Hp} {S S' : Sx} {F : Hp} {ρ : List Sl} {dk : Dk}
theorem Owns.lt {i : Nat} {s : Sl} (h : ρ[i]? = some s) : i < ρ.length := by
  by_cases hl : i < ρ.length
  · exact hl
  · rw [List.getElem?_eq_none (Nat.le_of_not_lt hl)] at h; cases h
theorem DkAt.imp {no no' : Addr → Prop} (h : DkAt K S H F dk no) (i : ∀ a, no' a → no a) : DkAt K S H F dk no' := by
  cases dk with
  | none => exact h
  | some x =>
    obtain ⟨cells, at_, sum, st⟩ := x
    obtain ⟨a, c, q1, q2, q3, q4, q5, q6, q7, q8, q9, q10⟩ := h
    exact ⟨a, c, q1, q2, q3, q4, q5, q6, q7, fun z => q8 (i _ z), fun z => q9 (i _ z), q10.move (Le.refl S) rfl fun b o _ z1 z2 z3 z4 _ _ => ⟨z1, z2, z3, fun z => z4 (i _ z)⟩⟩
/-- a slot gets a finished thing -/
theorem Rep.put {i : Nat} {v : V} {d : D} (r : Rep K σ H S F ρ dk) (h : Rp K S v d) : Rep K (σ.set i (some v)) H S F (ρ.set i (.val d)) dk := by
  have own : ∀ (j : Nat) (c : D), (ρ.set i (.val d))[j]? = some (Sl.own c) → i ≠ j ∧ ρ[j]? = some (Sl.own c) := fun j c e => by
    by_cases q : i = j
    · subst q
      by_cases hl : i < ρ.length
      · rw [List.getElem?_set_self hl] at e; cases e
      · rw [List.getElem?_eq_none (by simpa using hl)] at e; cases e
    · exact ⟨q, by rw [List.getElem?_set_ne q] at e; exact e⟩
  refine ⟨r.sh, r.fh, r.fs, by simp [r.len], ?_, ?_, ?_⟩
  · intro j s e
    by_cases q : i = j
    · subst q
      have hl : i < ρ.length := by have := Owns.lt e; simpa using this
      rw [List.getElem?_set_self hl] at e
      cases e
      exact ⟨v, by rw [List.getElem?_set_self (by rw [r.len]; exact hl)], h⟩
    · rw [List.getElem?_set_ne q] at e
      have z := r.env j s e
      cases s with
      | no => trivial
      | val c => obtain ⟨u, z1, z2⟩ := z; exact ⟨u, by rw [List.getElem?_set_ne q]; exact z1, z2⟩
      | own c => obtain ⟨p, z1, z2⟩ := z; exact ⟨p, by rw [List.getElem?_set_ne q]; exact z1, z2⟩
  · intro j k c e p h1 h2 h3 h4
    obtain ⟨n1, h1⟩ := own j c h1
    obtain ⟨n2, h2⟩ := own k e h2
    rw [List.getElem?_set_ne n1] at h3
    rw [List.getElem?_set_ne n2] at h4
    exact r.dist j k c e p h1 h2 h3 h4
  · refine r.dka.imp fun a ⟨j, c, h1, h2⟩ => ?_
    obtain ⟨n1, h1⟩ := own j c h1
    rw [List.getElem?_set_ne n1] at h2
    exact ⟨j, c, h1, h2⟩
/-- a slot gets a new thing of its own -/
theorem Rep.putOwn {i : Nat} {p : Addr} {d : D} (r : Rep K σ H S F ρ dk) (g : Sub H H') (np : H p = none) (h : OwnAt K S H' p d) : Rep K (σ.set i (some (.ref p))) H' S F (ρ.set i (.own d)) dk := by
  have old : ∀ (j : Nat) (c : D), i ≠ j → (ρ.set i (.own d))[j]? = some (Sl.own c) → ρ[j]? = some (Sl.own c) := fun j c q e => by rw [List.getElem?_set_ne q] at e; exact e
  have nown : ∀ (j : Nat) (c : D), ρ[j]? = some (Sl.own c) → σ[j]? ≠ some (some (V.ref p)) := fun j c e z => by
    obtain ⟨p', h1, h2, _⟩ := r.env j _ e
    rw [z] at h1; cases h1
    obtain ⟨o, ho⟩ := h2.at
    rw [np] at ho; cases ho
  have nS : S.hp p = none := r.sh.none np
  have nF : F p = none := r.fh.none np
  refine ⟨r.sh.trans g, r.fh.trans g, r.fs, by simp [r.len], ?_, ?_, ?_⟩
  · intro j s e
    by_cases q : i = j
    · subst q
      have hl : i < ρ.length := by have := Owns.lt e; simpa using this
      rw [List.getElem?_set_self hl] at e
      cases e
      exact ⟨p, by rw [List.getElem?_set_self (by rw [r.len]; exact hl)], h, nS, nF⟩
    · rw [List.getElem?_set_ne q] at e
      have z := r.env j s e
      cases s with
      | no => trivial
      | val c => obtain ⟨u, z1, z2⟩ := z; exact ⟨u, by rw [List.getElem?_set_ne q]; exact z1, z2⟩
      | own c => obtain ⟨p', z1, z2, z3⟩ := z; exact ⟨p', by rw [List.getElem?_set_ne q]; exact z1, z2.grow (Le.refl S) g, z3⟩
  · intro j k c e p' h1 h2 h3 h4
    by_cases q1 : i = j
    · by_cases q2 : i = k
      · rw [← q1, ← q2]
      · subst q1
        have hl : i < σ.length := by rw [r.len]; have := Owns.lt h1; simpa using this
        rw [List.getElem?_set_self hl] at h3
        cases h3
        rw [List.getElem?_set_ne q2] at h4
        exact (nown k e (old k e q2 h2) h4).elim
    · by_cases q2 : i = k
      · subst q2
        have hl : i < σ.length := by rw [r.len]; have := Owns.lt h2; simpa using this
        rw [List.getElem?_set_self hl] at h4
        cases h4
        rw [List.getElem?_set_ne q1] at h3
        exact (nown j c (old j c q1 h1) h3).elim
      · rw [List.getElem?_set_ne q1] at h3
        rw [List.getElem?_set_ne q2] at h4
        exact r.dist j k c e p' (old j c q1 h1) (old k e q2 h2) h3 h4
  · have q := r.dka
    cases dk with
    | none => exact q
    | some x =>
      obtain ⟨cells, at_, sum, st⟩ := x
      obtain ⟨a, c, q1, q2, q3, q4, q5, q6, q7, q8, q9, q10⟩ := q
      have ne : ∀ b o, H b = some o → ¬ Owns σ ρ b → ¬ Owns (σ.set i (some (.ref p))) (ρ.set i (.own d)) b := fun b o e n z => by
        obtain ⟨j, c', z1, z2⟩ := z
        by_cases q : i = j
        · subst q
          have hl : i < σ.length := by rw [r.len]; have := Owns.lt z1; simpa using this
          rw [List.getElem?_set_self hl] at z2
          cases z2
          rw [np] at e; cases e
        · rw [List.getElem?_set_ne q] at z2
          exact n ⟨j, c', old j c' q z1, z2⟩
      exact ⟨a, c, q1, g _ _ q2, g _ _ q3, q4, q5, q6, q7, ne _ _ q2 q8, ne _ _ q3 q9, q10.move (Le.refl S) rfl fun b o _ z1 z2 z3 z4 _ _ => ⟨g _ _ z1, z2, z3, ne _ _ z1 z4⟩⟩
/-- an own thing changes -/
theorem Rep.turnOwn {i : Nat} {p : Addr} {c d : D} {o : HO} (r : Rep K σ H S F ρ dk) (hi : ρ[i]? = some (Sl.own c)) (hp : σ[i]? = some (some (V.ref p))) (h : OwnAt K S (upd H p o) p d) : Rep K σ (upd H p o) S F (ρ.set i (.own d)) dk := by
  have hl := Owns.lt hi
  obtain ⟨p', hp', oa, nS, nF⟩ := r.env i _ hi
  rw [hp] at hp'; cases hp'
  have old : ∀ (j : Nat) (e : D), i ≠ j → (ρ.set i (.own d))[j]? = some (Sl.own e) → ρ[j]? = some (Sl.own e) := fun j c q e => by rw [List.getElem?_set_ne q] at e; exact e
  have back : ∀ (j : Nat) (e : D), (ρ.set i (.own d))[j]? = some (Sl.own e) → ∃ e', ρ[j]? = some (Sl.own e') := fun j e z => by
    by_cases q : i = j
    · subst q; exact ⟨c, hi⟩
    · exact ⟨e, old j e q z⟩
  refine ⟨fun a u e => ?_, fun a u e => ?_, r.fs, by simp [r.len], ?_, ?_, ?_⟩
  · rw [upd_ne (ne_of_none e nS)]; exact r.sh _ _ e
  · rw [upd_ne (ne_of_none e nF)]; exact r.fh _ _ e
  · intro j s e
    by_cases q : i = j
    · subst q
      rw [List.getElem?_set_self hl] at e
      cases e
      exact ⟨p, hp, h, nS, nF⟩
    · rw [List.getElem?_set_ne q] at e
      have z := r.env j s e
      cases s with
      | no => trivial
      | val c => exact z
      | own c' =>
        obtain ⟨p', z1, z2, z3⟩ := z
        have ne : p' ≠ p := fun w => by subst w; exact q (r.dist i j c c' p' hi e hp z1)
        refine ⟨p', z1, ?_, z3⟩
        cases c' with
        | lst ds => obtain ⟨xs, e1, e2⟩ := z2; exact ⟨xs, by rw [upd_ne ne]; exact e1, e2⟩
        | dct ks ds => obtain ⟨xs, e1, e2⟩ := z2; exact ⟨xs, by rw [upd_ne ne]; exact e1, e2⟩
        | ins nm ns ds => obtain ⟨C, dx, fs, e1, e2⟩ := z2; exact ⟨C, dx, fs, by rw [upd_ne ne]; exact e1, e2⟩
        | _ => exact z2.elim
  · intro j k e1 e2 q h1 h2 h3 h4
    obtain ⟨e1', h1⟩ := back j e1 h1
    obtain ⟨e2', h2⟩ := back k e2 h2
    exact r.dist j k e1' e2' q h1 h2 h3 h4
  · have q := r.dka
    cases dk with
    | none => exact q
    | some x =>
      obtain ⟨cells, at_, sum, st⟩ := x
      obtain ⟨a, c', q1, q2, q3, q4, q5, q6, q7, q8, q9, q10⟩ := q
      have ow : Owns σ ρ p := ⟨i, c, hi, hp⟩
      have ne : ∀ b, ¬ Owns σ ρ b → ¬ Owns σ (ρ.set i (.own d)) b := fun b n z => by
        obtain ⟨j, e, z1, z2⟩ := z
        obtain ⟨e', z1⟩ := back j e z1
        exact n ⟨j, e', z1, z2⟩
      exact ⟨a, c', q1, by rw [upd_ne (show a ≠ p from fun z => q8 (by rw [z]; exact ow))]; exact q2, by rw [upd_ne (show c' ≠ p from fun z => q9 (by rw [z]; exact ow))]; exact q3, q4, q5, q6, q7, ne _ q8, ne _ q9, q10.move (Le.refl S) rfl fun b o _ z1 z2 z3 z4 _ _ => ⟨by rw [upd_ne (show b ≠ p from fun z => z4 (by rw [z]; exact ow))]; exact z1, z2, z3, ne _ z4⟩⟩
theorem tsv_nil {D' : Ends} (h : TSv K W sNil D' σ H) : tNext D' σ H := by
  obtain ⟨S, F, ρ, dk, o, ρ', dk', R, e, q⟩ := h
  cases e
  exact q σ H S (Le.refl S) R
theorem tsv_seq {a b : SS} {D' : Ends} (h : TSv K W (sSeq a b) D' σ H) : tSeq (TSv K W a) (TSv K W b) D' σ H := by
  obtain ⟨S, F, ρ, dk, o, ρ', dk', R, e, q⟩ := h
  unfold sSeq at e
  cases ea : a ρ dk with
  | none => rw [ea] at e; cases e
  | some x =>
    obtain ⟨o1, ρ1, k1⟩ := x
    rw [ea] at e
    simp only [Option.bind_some] at e
    refine ⟨S, F, ρ, dk, o1, ρ1, k1, R, ea, ?_⟩
    cases o1 with
    | nx =>
      intro σ' H' S' l R'
      refine ⟨S', F, ρ1, k1, o, ρ', dk', R', e, ?_⟩
      cases o with
      | nx => exact fun σ2 H2 S2 l2 R2 => q σ2 H2 S2 (l.trans l2) R2
      | rt d => exact fun v σ2 H2 S2 l2 R2 rv => q v σ2 H2 S2 (l.trans l2) R2 rv
      | bk => exact fun σ2 H2 S2 l2 R2 => q σ2 H2 S2 (l.trans l2) R2
      | ct => exact fun σ2 H2 S2 l2 R2 => q σ2 H2 S2 (l.trans l2) R2
      | ex C ns ds => exact fun σ2 H2 S2 cls d l2 R2 x => q σ2 H2 S2 cls d (l.trans l2) R2 x
    | ex C ns ds => cases e; exact q
    | rt d => cases e; exact q
    | bk => cases e; exact q
    | ct => cases e; exact q
theorem tsv_ret {f : E} {D' : Ends} (h : TSv K W (sRet f) D' σ H) : tRet (TEv K f) D' σ H := by
  obtain ⟨S, F, ρ, dk, o, ρ', dk', R, e, q⟩ := h
  unfold sRet at e
  cases ea : f ρ dk with
  | none => rw [ea] at e; cases e
  | some x =>
    obtain ⟨d, ρ1, k1⟩ := x
    rw [ea] at e
    cases e
    exact ⟨S, F, ρ, dk, d, _, _, R, ea, fun v H' S' l R' rv => q v σ H' S' l R' rv⟩
theorem tsv_drop {f : E} {D' : Ends} (h : TSv K W (sDrop f) D' σ H) : tDrop (TEv K f) D' σ H := by
  obtain ⟨S, F, ρ, dk, o, ρ', dk', R, e, q⟩ := h
  unfold sDrop at e
  cases ea : f ρ dk with
  | none => rw [ea] at e; cases e
  | some x =>
    obtain ⟨d, ρ1, k1⟩ := x
    rw [ea] at e
    cases e
    exact ⟨S, F, ρ, dk, d, _, _, R, ea, fun v H' S' l R' rv => q σ H' S' l R'⟩
theorem tsv_if {c : E} {a b : SS} {D' : Ends} (h : TSv K W (sIf c a b) D' σ H) : tIfS (TTv K c) (TSv K W a) (TSv K W b) D' σ H := by
  obtain ⟨S, F, ρ, dk, o, ρ', dk', R, e, q⟩ := h
  unfold sIf at e
  cases ea : c ρ dk with
  | none => rw [ea] at e; cases e
  | some x =>
    obtain ⟨d, ρ1, k1⟩ := x
    rw [ea] at e
    simp only [Option.bind_some] at e
    have fin : ∀ (H1 : Hp) (S1 : Sx), Le S S1 → Rep K σ H1 S1 F ρ1 k1 → ∀ f : SS, f ρ1 k1 = some (o, ρ', dk') → TSv K W f D' σ H1 := fun H1 S1 l R1 f ef => by
      refine ⟨S1, F, ρ1, k1, o, ρ', dk', R1, ef, ?_⟩
      cases o with
      | nx => exact fun σ2 H2 S2 l2 R2 => q σ2 H2 S2 (l.trans l2) R2
      | rt d => exact fun v σ2 H2 S2 l2 R2 rv => q v σ2 H2 S2 (l.trans l2) R2 rv
      | bk => exact fun σ2 H2 S2 l2 R2 => q σ2 H2 S2 (l.trans l2) R2
      | ct => exact fun σ2 H2 S2 l2 R2 => q σ2 H2 S2 (l.trans l2) R2
      | ex C ns ds => exact fun σ2 H2 S2 cls d l2 R2 x => q σ2 H2 S2 cls d (l.trans l2) R2 x
    split at e
    · exact ⟨S, F, ρ, dk, true, ρ1, k1, R, ea, fun H1 S1 l R1 => fin H1 S1 l R1 a e⟩
    · exact ⟨S, F, ρ, dk, false, ρ1, k1, R, ea, fun H1 S1 l R1 => fin H1 S1 l R1 b e⟩
    · cases e
def TGv (K : PySem.W.Frag) (vs : List Nat) (g : Tg) : TG := fun v σ H Q => ∃ S F ρ dk d ρ', Rep K σ H S F ρ dk ∧ Rp K S v d ∧ g d ρ = some ρ' ∧ ∀ σ' H' S', Le S S' → Rep K σ' H' S' F ρ' dk → σ'.length = σ.length → (∀ i, i ∉ vs → σ'[i]? = σ[i]?) → Q σ' H'
theorem tgv_set {i : Nat} {v : V} {Q : L2.St → Hp → Prop} (h : TGv K [i] (gSet i) v σ H Q) : gName i v σ H Q := by
  obtain ⟨S, F, ρ, dk, d, ρ', R, rv, e, q⟩ := h
  cases e
  exact q _ H S (Le.refl S) (R.put rv) (by simp) fun j hj => by rw [List.getElem?_set_ne (fun z => hj (by simp [z]))]
theorem tsv_asg {vs : List Nat} {f : E} {g : Tg} {D' : Ends} (h : TSv K W (sAsg g f) D' σ H) : tAsg (TEv K f) (TGv K vs g) D' σ H := by
  obtain ⟨S, F, ρ, dk, o, ρ', dk', R, e, q⟩ := h
  unfold sAsg at e
  cases ea : f ρ dk with
  | none => rw [ea] at e; cases e
  | some x =>
    obtain ⟨d, ρ1, k1⟩ := x
    rw [ea] at e
    simp only [Option.bind_some] at e
    cases eg : g d ρ1 with
    | none => rw [eg] at e; cases e
    | some ρ2 =>
      rw [eg] at e
      cases e
      exact ⟨S, F, ρ, dk, d, ρ1, _, R, ea, fun v H' S' l R' rv => ⟨S', F, ρ1, _, d, _, R', rv, eg, fun σ2 H2 S2 l2 R2 _ _ => q σ2 H2 S2 (l.trans l2) R2⟩⟩
end
/-- from S on, the iterator gives ds -/
def ItD (K : PySem.W.Frag) (S : Sx) (J : It) (ds : List D) : Prop := ∀ (S1 : Sx) (H1 : Hp), Le S S1 → Sub S1.hp H1 → ∀ i : Nat,
  (∀ d, ds[i]? = some d → J.go i H1 ∧ ∀ x H2, J.yld i H1 x H2 → ∃ S2, Grow S1 H1 S2 H2 ∧ Rp K S2 x d) ∧ (ds[i]? = none → J.stop i H1)
def TIv (K : PySem.W.Frag) (f : EL) : TI := fun σ H R => ∃ S F ρ dk ds ρ' dk', Rep K σ H S F ρ dk ∧ f ρ dk = some (ds, ρ', dk') ∧
  ∀ J H' S', Le S S' → Rep K σ H' S' F ρ' dk' → ItD K S' J ds → R J H'
theorem _root_.L2.PI.imp {X : Cx} {tg e : Expr} {t t' : TI} (h : PI X tg e t) (i : ∀ σ H Q, t' σ H Q → t σ H Q) : PI X tg e t' := ⟨fun pins s σ H Q I q => h.run pins s σ H Q I (i _ _ _ q)⟩
theorem _root_.L2.PG.imp {X : Cx} {e : Expr} {t t' : TG} (h : PG X e t) (i : ∀ v σ H Q, t' v σ H Q → t v σ H Q) : PG X e t' := ⟨fun pins s σ H v u Q I r q => h.run pins s σ H v u Q I r (i _ _ _ _ q)⟩
def sForGo (g : Tg) (body : SS) : List D → SS
  | [] => sNil
  | d :: ds => fun ρ k => (g d ρ).bind fun ρ1 => (body ρ1 k).bind fun x => match x.1 with
    | .nx => sForGo g body ds x.2.1 x.2.2
    | .ct => sForGo g body ds x.2.1 x.2.2
    | .bk => some (.nx, x.2.1, x.2.2)
    | .rt d => some (.rt d, x.2.1, x.2.2)
    | .ex C ns ds => some (.ex C ns ds, x.2.1, x.2.2)
def sFor (src : EL) (g : Tg) (body : SS) : SS := fun ρ k => (src ρ k).bind fun x => sForGo g body x.1 x.2.1 x.2.2
section
variable {K : PySem.W.Frag} {σ : L2.St} {H H' : Hp}
theorem tsv_for {vs : List Nat} {src : EL} {g : Tg} {body : SS} {D' : Ends} (h : TSv K W (sFor src g body) D' σ H) : tFor (TIv K src) (TGv K vs g) (TSv K W body) D' σ H := by
  obtain ⟨S, F, ρ, dk, o, ρ', dk', R, e, q⟩ := h
  unfold sFor at e
  cases ea : src ρ dk with
  | none => rw [ea] at e; cases e
  | some x =>
    obtain ⟨ds, ρ1, k1⟩ := x
    rw [ea] at e
    simp only [Option.bind_some] at e
    refine ⟨S, F, ρ, dk, ds, ρ1, k1, R, ea, fun J H1 S1 l1 R1 it => ?_⟩
    refine ⟨fun i m σ H => m = ds.length - i ∧ ∃ S2 ρ2 k2, Le S1 S2 ∧ Rep K σ H S2 F ρ2 k2 ∧ sForGo g body (ds.drop i) ρ2 k2 = some (o, ρ', dk'), ⟨ds.length, by omega, S1, ρ1, k1, Le.refl S1, R1, by rw [List.drop_zero]; exact e⟩, ?_⟩
    rintro i m σ2 H2 ⟨hm, S2, ρ2, k2, l2, R2, e2⟩
    obtain ⟨it1, it2⟩ := it S2 H2 l2 R2.sh i
    cases hd : ds[i]? with
    | none =>
      have hdr : ds.drop i = [] := List.drop_eq_nil_iff.mpr (List.getElem?_eq_none_iff.mp hd)
      rw [hdr] at e2
      cases e2
      exact .inl ⟨it2 hd, q σ2 H2 S2 (l1.trans l2) R2⟩
    | some d =>
      obtain ⟨go, yld⟩ := it1 d hd
      have hi : i < ds.length := by
        by_cases hl : i < ds.length
        · exact hl
        · rw [List.getElem?_eq_none (Nat.le_of_not_lt hl)] at hd; cases hd
      have hdr : ds.drop i = d :: ds.drop (i + 1) := by
        rw [List.drop_eq_getElem_cons hi]
        rw [List.getElem?_eq_getElem hi] at hd
        cases hd; rfl
      rw [hdr] at e2
      unfold sForGo at e2
      cases eg : g d ρ2 with
      | none => rw [eg] at e2; cases e2
      | some ρ3 =>
        rw [eg] at e2
        simp only [Option.bind_some] at e2
        cases eb : body ρ3 k2 with
        | none => rw [eb] at e2; cases e2
        | some y =>
          obtain ⟨o4, ρ4, k4⟩ := y
          rw [eb] at e2
          simp only [Option.bind_some] at e2
          refine .inr ⟨go, fun σ' H' => ∃ S5, Le S1 S5 ∧ Rep K σ' H' S5 F ρ4 k4 ∧ sForGo g body (ds.drop (i + 1)) ρ4 k4 = some (o, ρ', dk'), fun σ' H' ⟨S5, l5, R5, e5⟩ => ⟨ds.length - (i + 1), by omega, rfl, S5, ρ4, k4, l5, R5, e5⟩, fun x H3 hy => ?_⟩
          obtain ⟨S3, gr, rx⟩ := yld x H3 hy
          refine ⟨S3, F, ρ2, k2, d, ρ3, R2.grow gr, rx, eg, fun σ4 H4 S4 l4 R4 _ _ => ?_⟩
          have l04 : Le S1 S4 := (l2.trans gr.le).trans l4
          refine ⟨S4, F, ρ3, k2, o4, ρ4, k4, R4, eb, ?_⟩
          cases o4 with
          | nx => exact fun σ5 H5 S5 l5 R5 => ⟨S5, l04.trans l5, R5, e2⟩
          | ct => exact fun σ5 H5 S5 l5 R5 => ⟨S5, l04.trans l5, R5, e2⟩
          | bk =>
            cases e2
            exact fun σ5 H5 S5 l5 R5 => q σ5 H5 S5 (l1.trans (l04.trans l5)) R5
          | rt d5 =>
            cases e2
            exact fun v σ5 H5 S5 l5 R5 rv => q v σ5 H5 S5 (l1.trans (l04.trans l5)) R5 rv
          | ex C ns ds =>
            cases e2
            exact fun σ5 H5 S5 cls d l5 R5 x => q σ5 H5 S5 cls d (l1.trans (l04.trans l5)) R5 x
end
def wipeS (ρ : List Sl) : List Nat → List Sl
  | [] => ρ
  | v :: vs => (wipeS ρ vs).set v .no
def eCompGo (vs : List Nat) (g : Tg) (tt elt : E) : List D → EL
  | [] => fun ρ k => some ([], ρ, k)
  | d :: ds => fun ρ k => (g d ρ).bind fun ρ1 => (tt ρ1 k).bind fun b => match b.1 with
    | .bl true => (elt b.2.1 b.2.2).bind fun y => (eCompGo vs g tt elt ds (wipeS y.2.1 vs) y.2.2).map fun z => (y.1 :: z.1, z.2)
    | .bl false => eCompGo vs g tt elt ds (wipeS b.2.1 vs) b.2.2
    | _ => none
def eComp (src : EL) (vs : List Nat) (g : Tg) (tt elt : E) : E := fun ρ k => (src ρ k).bind fun x => if x.1.length < sizeLine then (eCompGo vs g tt elt x.1 (wipeS x.2.1 vs) x.2.2).map fun y => (.lst y.1, y.2) else none
section
variable {K : PySem.W.Frag} {σ : L2.St} {H H' : Hp} {S S' : Sx} {F : Hp} {ρ : List Sl} {dk : Dk}
theorem wipeS_length (ρ : List Sl) : ∀ vs, (wipeS ρ vs).length = ρ.length
  | [] => rfl
  | v :: vs => by simp [wipeS, wipeS_length ρ vs]
theorem wipeS_get {i : Nat} {s : Sl} : ∀ {vs : List Nat}, (wipeS ρ vs)[i]? = some s → s = .no ∨ (ρ[i]? = some s ∧ i ∉ vs)
  | [], h => .inr ⟨h, by simp⟩
  | v :: vs, h => by
    unfold wipeS at h
    by_cases q : v = i
    · subst q
      have hl : v < (wipeS ρ vs).length := by have := Owns.lt h; simpa using this
      rw [List.getElem?_set_self hl] at h
      cases h; exact .inl rfl
    · rw [List.getElem?_set_ne q] at h
      rcases wipeS_get h with z | ⟨z1, z2⟩
      · exact .inl z
      · exact .inr ⟨z1, by simp [z2, Ne.symm q]⟩
theorem wipe_get {i : Nat} : ∀ {vs : List Nat}, i ∉ vs → (wipe σ vs)[i]? = σ[i]?
  | [], _ => rfl
  | v :: vs, h => by
    unfold wipe
    rw [List.getElem?_set_ne (fun e => h (by simp [e]))]
    exact wipe_get (fun z => h (by simp [z]))
theorem wipe_in {σ1 σ2 : L2.St} {i : Nat} (hl : σ1.length = σ2.length) : ∀ {vs : List Nat}, i ∈ vs → (wipe σ1 vs)[i]? = (wipe σ2 vs)[i]?
  | [], h => by simp at h
  | v :: vs, h => by
    unfold wipe
    rw [List.getElem?_set, List.getElem?_set]
    by_cases q : v = i
    · rw [if_pos q, if_pos q, wipe_length, wipe_length, hl]
    · rw [if_neg q, if_neg q]
      exact wipe_in hl (by simpa [Ne.symm q] using h)
/-- slots forgotten -/
theorem Rep.wiped {σ2 : L2.St} {vs : List Nat} (r : Rep K σ H S F ρ dk) (hl : σ2.length = σ.length) (he : ∀ i, i ∉ vs → σ2[i]? = σ[i]?) : Rep K σ2 H S F (wipeS ρ vs) dk := by
  refine ⟨r.sh, r.fh, r.fs, by rw [hl, wipeS_length]; exact r.len, ?_, ?_, ?_⟩
  · intro i s e
    rcases wipeS_get e with z | ⟨z1, z2⟩
    · subst z; trivial
    · have q := r.env i s z1
      cases s with
      | no => trivial
      | val d => obtain ⟨v, q1, q2⟩ := q; exact ⟨v, by rw [he i z2]; exact q1, q2⟩
      | own d => obtain ⟨p, q1, q2⟩ := q; exact ⟨p, by rw [he i z2]; exact q1, q2⟩
  · intro i j d e p h1 h2 h3 h4
    rcases wipeS_get h1 with z | ⟨z1, z2⟩
    · cases z
    · rcases wipeS_get h2 with y | ⟨y1, y2⟩
      · cases y
      · rw [he i z2] at h3
        rw [he j y2] at h4
        exact r.dist i j d e p z1 y1 h3 h4
  · refine r.dka.imp fun a ⟨i, d, h1, h2⟩ => ?_
    rcases wipeS_get h1 with z | ⟨z1, z2⟩
    · cases z
    · rw [he i z2] at h2
      exact ⟨i, d, z1, h2⟩
/-- a new thing is put into the frame -/
theorem Rep.frame {p : Addr} {o : HO} (r : Rep K σ H S F ρ dk) (n : H p = none) : Rep K σ (upd H p o) S (upd F p o) ρ dk := by
  have gh : Sub H (upd H p o) := Sub.new n
  have up : ∀ a, a ≠ p → upd F p o a = F a := fun a q => upd_ne q
  have fz : ∀ a, H a ≠ none → F a = none → upd F p o a = none := fun a q z => by rw [up a (fun w => by subst w; exact q n)]; exact z
  refine ⟨r.sh.trans gh, fun a u e => ?_, fun a u e => ?_, r.len, fun i s e => ?_, r.dist, ?_⟩
  · by_cases q : a = p
    · subst q; rw [upd_same] at e ⊢; exact e
    · rw [upd_ne q] at e ⊢; exact r.fh _ _ e
  · by_cases q : a = p
    · subst q; exact r.sh.none n
    · rw [upd_ne q] at e; exact r.fs _ _ e
  · have q := r.env i s e
    cases s with
    | no => trivial
    | val d => exact q
    | own d =>
      obtain ⟨p', q1, q2, q3, q4⟩ := q
      obtain ⟨u, hu⟩ := q2.at
      exact ⟨p', q1, q2.grow (Le.refl S) gh, q3, fz _ (by rw [hu]; intro z; cases z) q4⟩
  · have q := r.dka
    cases dk with
    | none => exact q
    | some x =>
      obtain ⟨cells, at_, sum, st⟩ := x
      obtain ⟨a, c, q1, q2, q3, q4, q5, q6, q7, q8, q9, q10⟩ := q
      exact ⟨a, c, q1, gh _ _ q2, gh _ _ q3, q4, q5, fz _ (by rw [q2]; intro z; cases z) q6, fz _ (by rw [q3]; intro z; cases z) q7, q8, q9, q10.move (Le.refl S) rfl fun b o _ z1 z2 z3 z4 _ _ => ⟨gh _ _ z1, z2, fz _ (by rw [z1]; intro z; cases z) z3, z4⟩⟩
/-- a thing of the frame is changed -/
theorem Rep.turnF {p : Addr} {o o' : HO} (r : Rep K σ H S (upd F p o) ρ dk) : Rep K σ (upd H p o') S (upd F p o') ρ dk := by
  have hp : H p = some o := r.fh _ _ upd_same
  have sp : S.hp p = none := r.fs _ _ upd_same
  have fne : ∀ a, a ≠ p → upd F p o a = upd F p o' a := fun a q => by rw [upd_ne q, upd_ne q]
  refine ⟨fun a u e => ?_, fun a u e => ?_, fun a u e => ?_, r.len, fun i s e => ?_, r.dist, ?_⟩
  · rw [upd_ne (ne_of_none e sp)]; exact r.sh _ _ e
  · by_cases q : a = p
    · subst q; rw [upd_same] at e ⊢; exact e
    · rw [← fne a q] at e; rw [upd_ne q]; exact r.fh _ _ e
  · by_cases q : a = p
    · subst q; exact sp
    · rw [← fne a q] at e; exact r.fs _ _ e
  · have q := r.env i s e
    cases s with
    | no => trivial
    | val d => exact q
    | own d =>
      obtain ⟨p', q1, q2, q3, q4⟩ := q
      have ne : p' ≠ p := fun z => by subst z; rw [upd_same] at q4; cases q4
      refine ⟨p', q1, ?_, q3, by rw [← fne p' ne]; exact q4⟩
      cases d with
      | lst ds => obtain ⟨xs, e1, e2⟩ := q2; exact ⟨xs, by rw [upd_ne ne]; exact e1, e2⟩
      | dct ks ds => obtain ⟨xs, e1, e2⟩ := q2; exact ⟨xs, by rw [upd_ne ne]; exact e1, e2⟩
      | ins nm ns ds => obtain ⟨C, dx, fs, e1, e2⟩ := q2; exact ⟨C, dx, fs, by rw [upd_ne ne]; exact e1, e2⟩
      | _ => exact q2.elim
  · have q := r.dka
    cases dk with
    | none => exact q
    | some x =>
      obtain ⟨cells, at_, sum, st⟩ := x
      obtain ⟨a, c, q1, q2, q3, q4, q5, q6, q7, q8, q9, q10⟩ := q
      have na : a ≠ p := fun z => by subst z; rw [upd_same] at q6; cases q6
      have nc : c ≠ p := fun z => by subst z; rw [upd_same] at q7; cases q7
      exact ⟨a, c, q1, by rw [upd_ne na]; exact q2, by rw [upd_ne nc]; exact q3, q4, q5, by rw [← fne a na]; exact q6, by rw [← fne c nc]; exact q7, q8, q9, q10.move (Le.refl S) rfl fun b u _ z1 z2 z3 z4 _ _ => by
        have nb : b ≠ p := fun z => by subst z; rw [upd_same] at z3; cases z3
        exact ⟨by rw [upd_ne nb]; exact z1, z2, by rw [← fne b nb]; exact z3, z4⟩⟩
/-- a thing of the frame is finished -/
theorem Rep.unframe {p : Addr} {o : HO} (r : Rep K σ H S (upd F p o) ρ dk) (n : F p = none) : Rep K σ H (S.add p o) F ρ dk := by
  have hp : H p = some o := r.fh _ _ upd_same
  have sp : S.hp p = none := r.fs _ _ upd_same
  have le : Le S (S.add p o) := ⟨Sub.new sp, fun a e => e, fun _ _ e => e⟩
  have sn : ∀ a, a ≠ p → (S.add p o).hp a = S.hp a := fun a q => upd_ne q
  have fr : ∀ a, upd F p o a = none → a ≠ p ∧ F a = none := fun a e => by
    by_cases q : a = p
    · subst q; rw [upd_same] at e; cases e
    · rw [upd_ne q] at e; exact ⟨q, e⟩
  refine ⟨fun a u e => ?_, fun a u e => ?_, fun a u e => ?_, r.len, fun i s e => ?_, r.dist, ?_⟩
  · by_cases q : a = p
    · subst q; rw [Sx.add_at] at e; rw [hp]; exact e
    · rw [sn a q] at e; exact r.sh _ _ e
  · have q : a ≠ p := fun z => by subst z; rw [n] at e; cases e
    exact r.fh a u (by rw [upd_ne q]; exact e)
  · have q : a ≠ p := fun z => by subst z; rw [n] at e; cases e
    rw [sn a q]
    exact r.fs a u (by rw [upd_ne q]; exact e)
  · have q := r.env i s e
    cases s with
    | no => trivial
    | val d => obtain ⟨v, q1, q2⟩ := q; exact ⟨v, q1, q2.mono le⟩
    | own d =>
      obtain ⟨p', q1, q2, q3, q4⟩ := q
      obtain ⟨ne, q4⟩ := fr p' q4
      exact ⟨p', q1, q2.grow le (Sub.refl H), by rw [sn p' ne]; exact q3, q4⟩
  · have q := r.dka
    cases dk with
    | none => exact q
    | some x =>
      obtain ⟨cells, at_, sum, st⟩ := x
      obtain ⟨a, c, q1, q2, q3, q4, q5, q6, q7, q8, q9, q10⟩ := q
      obtain ⟨na, q6⟩ := fr a q6
      obtain ⟨nc, q7⟩ := fr c q7
      exact ⟨a, c, q1, q2, q3, by rw [sn a na]; exact q4, by rw [sn c nc]; exact q5, q6, q7, q8, q9, q10.move le rfl fun b u _ z1 z2 z3 z4 _ _ => by
        obtain ⟨nb, z3⟩ := fr b z3
        exact ⟨z1, by rw [sn b nb]; exact z2, z3, z4⟩⟩
theorem tev_comp {src : EL} {vs : List Nat} {g : Tg} {tt elt : E} {Q : VK} (h : TEv K (eComp src vs g tt elt) σ H Q) : tLc (TIv K src) (TGv K vs g) (TTv K tt) (TEv K elt) vs σ H Q := by
  obtain ⟨S, F, ρ, dk, d, ρ', dk', R, e, q⟩ := h
  unfold eComp at e
  cases ea : src ρ dk with
  | none => rw [ea] at e; cases e
  | some x =>
    obtain ⟨ds, ρ1, k1⟩ := x
    rw [ea] at e
    simp only [Option.bind_some] at e
    split at e
    case isFalse => cases e
    rename_i hlen
    cases ec : eCompGo vs g tt elt ds (wipeS ρ1 vs) k1 with
    | none => rw [ec] at e; cases e
    | some y =>
      obtain ⟨ys, ρf, kf⟩ := y
      rw [ec] at e
      simp only [Option.map_some] at e
      cases e
      refine ⟨S, F, ρ, dk, ds, ρ1, k1, R, ea, fun J H1 S1 l1 R1 it => fun A hA => ?_⟩
      have nF : F A = none := R1.fh.none hA
      have lσ : (wipe σ vs).length = σ.length := wipe_length σ vs
      have R1w : Rep K (wipe σ vs) H1 S1 F (wipeS ρ1 vs) k1 := R1.wiped lσ fun i hi => wipe_get hi
      refine ⟨fun i m H => m = ds.length - i ∧ ∃ S2 ρ2 k2 acc done rest, Le S1 S2 ∧ Rep K (wipe σ vs) H S2 (upd F A (.lst acc)) ρ2 k2 ∧ RpL K S2 acc done ∧ done ++ rest = ys ∧ acc.length ≤ i ∧
        eCompGo vs g tt elt (ds.drop i) ρ2 k2 = some (rest, ρ', dk'), ⟨ds.length, by omega, S1, _, k1, [], [], ys, Le.refl S1, R1w.frame hA, .nil, rfl, Nat.le_refl _, by rw [List.drop_zero]; exact ec⟩, ?_⟩
      rintro i m H2 ⟨hm, S2, ρ2, k2, acc, done, rest, l2, R2, ra, hdr0, hacc, e2⟩
      obtain ⟨it1, it2⟩ := it S2 H2 l2 R2.sh i
      cases hd : ds[i]? with
      | none =>
        have hdr : ds.drop i = [] := List.drop_eq_nil_iff.mpr (List.getElem?_eq_none_iff.mp hd)
        rw [hdr] at e2
        cases e2
        rw [List.append_nil] at hdr0
        subst hdr0
        refine .inl ⟨it2 hd, ?_⟩
        have spA : S2.hp A = none := R2.fs _ _ upd_same
        have leA : Le S2 (S2.add A (.lst acc)) := ⟨Sub.new spA, fun a e => e, fun _ _ e => e⟩
        have R3 : Rep K (wipe σ vs) H2 (S2.add A (.lst acc)) F ρ' dk' := R2.unframe nF
        refine q (.ref A) H2 _ ((l1.trans l2).trans leA) ?_ (.lst Sx.add_at (ra.mono leA))
        -- the slots as they were ahead
        have nov : ∀ v, v ∈ vs → ∀ s, ρ'[v]? = some s → s = .no := by
          have key : ∀ (l : List D) (ρa : List Sl) (ka : Dk) (r : List D) (ρb : List Sl) (kb : Dk), (∀ v, v ∈ vs → ∀ s, ρa[v]? = some s → s = .no) → eCompGo vs g tt elt l ρa ka = some (r, ρb, kb) → ∀ v, v ∈ vs → ∀ s, ρb[v]? = some s → s = .no := by
            intro l
            induction l with
            | nil => intro ρa ka r ρb kb h0 hh; cases hh; exact h0
            | cons d l ih =>
              intro ρa ka r ρb kb h0 hh
              have w0 : ∀ ρc : List Sl, ∀ v, v ∈ vs → ∀ s, (wipeS ρc vs)[v]? = some s → s = .no := fun ρc v hv s hs => by
                rcases wipeS_get hs with z | ⟨_, z⟩
                · exact z
                · exact absurd hv z
              unfold eCompGo at hh
              cases h1 : g d ρa with
              | none => rw [h1] at hh; cases hh
              | some ρ1 =>
                rw [h1] at hh
                simp only [Option.bind_some] at hh
                cases h2 : tt ρ1 ka with
                | none => rw [h2] at hh; cases hh
                | some b =>
                  rw [h2] at hh
                  simp only [Option.bind_some] at hh
                  split at hh
                  · cases h3 : elt b.2.1 b.2.2 with
                    | none => rw [h3] at hh; cases hh
                    | some y =>
                      rw [h3] at hh
                      simp only [Option.bind_some] at hh
                      cases h4 : eCompGo vs g tt elt l (wipeS y.2.1 vs) y.2.2 with
                      | none => rw [h4] at hh; cases hh
                      | some z =>
                        rw [h4] at hh
                        obtain ⟨z1, z2, z3⟩ := z
                        cases hh
                        exact ih _ _ _ _ _ (w0 _) h4
                  · exact ih _ _ _ _ _ (w0 _) hh
                  · cases hh
          refine key ds (wipeS ρ1 vs) k1 _ _ _ (fun v hv s hs => ?_) ec
          rcases wipeS_get hs with z | ⟨_, z⟩
          · exact z
          · exact absurd hv z
        have ini : ∀ i s, ρ'[i]? = some s → s ≠ .no → i ∉ vs := fun i s e n z => n (nov i z s e)
        refine ⟨R3.sh, R3.fh, R3.fs, by rw [← lσ]; exact R3.len, fun i s e => ?_, fun i j d e p h1 h2 h3 h4 => ?_, R3.dka.imp fun a ⟨i, d, h1, h2⟩ => ?_⟩
        · have z := R3.env i s e
          cases s with
          | no => trivial
          | val d => obtain ⟨v, z1, z2⟩ := z; exact ⟨v, by rw [← wipe_get (vs := vs) (ini i _ e (fun z => by cases z))]; exact z1, z2⟩
          | own d => obtain ⟨p, z1, z2⟩ := z; exact ⟨p, by rw [← wipe_get (vs := vs) (ini i _ e (fun z => by cases z))]; exact z1, z2⟩
        · refine R3.dist i j d e p h1 h2 ?_ ?_
          · rw [wipe_get (ini i _ h1 (fun z => by cases z))]; exact h3
          · rw [wipe_get (ini j _ h2 (fun z => by cases z))]; exact h4
        · exact ⟨i, d, h1, by rw [wipe_get (ini i _ h1 (fun z => by cases z))]; exact h2⟩
      | some d =>
        obtain ⟨go, yld⟩ := it1 d hd
        have hi : i < ds.length := by
          by_cases hl : i < ds.length
          · exact hl
          · rw [List.getElem?_eq_none (Nat.le_of_not_lt hl)] at hd; cases hd
        have hdr : ds.drop i = d :: ds.drop (i + 1) := by
          rw [List.drop_eq_getElem_cons hi]
          rw [List.getElem?_eq_getElem hi] at hd
          cases hd; rfl
        rw [hdr] at e2
        unfold eCompGo at e2
        cases eg : g d ρ2 with
        | none => rw [eg] at e2; cases e2
        | some ρ3 =>
          rw [eg] at e2
          simp only [Option.bind_some] at e2
          cases et : tt ρ3 k2 with
          | none => rw [et] at e2; cases e2
          | some b =>
            obtain ⟨bd, ρ4, k4⟩ := b
            rw [et] at e2
            simp only [Option.bind_some] at e2
            refine .inr ⟨go, fun H => ∃ S2 ρ2 k2 acc done rest, Le S1 S2 ∧ Rep K (wipe σ vs) H S2 (upd F A (.lst acc)) ρ2 k2 ∧ RpL K S2 acc done ∧ done ++ rest = ys ∧ acc.length ≤ i + 1 ∧
              eCompGo vs g tt elt (ds.drop (i + 1)) ρ2 k2 = some (rest, ρ', dk'), fun H' hN => ⟨ds.length - (i + 1), by omega, rfl, hN⟩, fun x H3 hy => ?_⟩
            obtain ⟨S3, gr, rx⟩ := yld x H3 hy
            refine ⟨S3, _, ρ2, k2, d, ρ3, R2.grow gr, rx, eg, fun σ4 H4 S4 l4 R4 len4 off4 => ?_⟩
            have l04 : Le S1 S4 := (l2.trans gr.le).trans l4
            have wl : (wipe σ vs).length = σ4.length := len4.symm
            have wo : ∀ i, i ∉ vs → (wipe σ vs)[i]? = σ4[i]? := fun i hi => (off4 i hi).symm
            refine ⟨?_, ?_⟩
            · refine List.ext_getElem? fun i => ?_
              by_cases hi : i ∈ vs
              · rw [wipe_in (len4.trans lσ) hi]
              · rw [wipe_get hi, off4 i hi, wipe_get hi]
            have more : Rep K (wipe σ vs) H4 S4 _ _ _ := R4.wiped wl wo
            cases bd with
            | bl c =>
              refine ⟨S4, _, ρ3, k2, c, ρ4, k4, R4, et, fun H5 S5 l5 R5 => ?_⟩
              cases c with
              | false => exact ⟨S5, _, k4, acc, done, rest, l04.trans l5, R5.wiped wl wo, ra.mono ((gr.le.trans l4).trans l5), hdr0, Nat.le_succ_of_le hacc, e2⟩
              | true =>
                simp only at e2
                cases ee : elt ρ4 k4 with
                | none => rw [ee] at e2; cases e2
                | some y =>
                  obtain ⟨yd, ρ6, k6⟩ := y
                  rw [ee] at e2
                  simp only [Option.bind_some] at e2
                  cases er : eCompGo vs g tt elt (ds.drop (i + 1)) (wipeS ρ6 vs) k6 with
                  | none => rw [er] at e2; cases e2
                  | some z =>
                    obtain ⟨zs, ρ7, k7⟩ := z
                    rw [er] at e2
                    simp only [Option.map_some] at e2
                    cases e2
                    refine ⟨S5, _, ρ4, k4, yd, ρ6, k6, R5, ee, fun v H6 S6 l6 R6 rv => ⟨acc, R6.fh _ _ upd_same, by omega, ?_⟩⟩
                    refine ⟨S6, _, k6, acc ++ [v], done ++ [yd], zs, (l04.trans l5).trans l6, R6.turnF.wiped wl wo, ?_, ?_, ?_, er⟩
                    · exact (ra.mono (((gr.le.trans l4).trans l5).trans l6)).app (.cons rv .nil)
                    · rw [List.append_assoc]; exact hdr0
                    · simp; exact hacc
            | _ => cases e2
end
end WS
namespace WS
open PySem PySem.Spec PyProof.Rows L2
/-- a, b = a tuple of two -/
def gPair (g1 g2 : Tg) : Tg := fun d ρ => match d with
  | .tup [x, y] => (g1 x ρ).bind fun ρ1 => g2 y ρ1
  | _ => none
section
variable {X : Cx} {K : PySem.W.Frag} {σ : L2.St} {H : Hp} {t1 t2 : Expr} {g1 g2 : Tg} {vs1 vs2 : List Nat} {pos pos' : Pos} {k : Nat}
/-- two targets by a list of two values -/
theorem two_goals {pins : List (Addr × Obj)} {s : Shared} {σ : L2.St} {H : Hp} {S : Sx} {F : Hp} {ρ ρ1 ρ2 : List Sl} {dk : Dk} {x y : V} {u v : Value} {d e : D} {Q : L2.St → Hp → Prop}
    (h1 : PG X t1 (TGv X.K vs1 g1)) (h2 : PG X t2 (TGv X.K vs2 g2)) (I : Inv X pins σ H s) (R : Rep X.K σ H S F ρ dk) (ru : RelV x u) (rv : RelV y v) (rx : Rp X.K S x d) (ry : Rp X.K S y e)
    (e1 : g1 d ρ = some ρ1) (e2 : g2 e ρ1 = some ρ2) (q : ∀ σ' H' S', Le S S' → Rep X.K σ' H' S' F ρ2 dk → σ'.length = σ.length → (∀ i, i ∉ vs1 ++ vs2 → σ'[i]? = σ[i]?) → Q σ' H') :
    wpAny (model X.prog X.w) X.A (assignInOrder [assign t1 X.env, assign t2 X.env] [u, v]) (fun _ s' => ∃ σ' H', Inv X pins σ' H' s' ∧ Q σ' H') X.xe s := by
  have w1 : TGv X.K vs1 g1 x σ H fun σ1 H1 => TGv X.K vs2 g2 y σ1 H1 Q := by
    refine ⟨S, F, ρ, dk, d, ρ1, R, rx, e1, fun σ1 H1 S1 l1 R1 n1 o1 => ?_⟩
    refine ⟨S1, F, ρ1, dk, e, ρ2, R1, ry.mono l1, e2, fun σ2 H2 S2 l2 R2 n2 o2 => q σ2 H2 S2 (l1.trans l2) R2 (n2.trans n1) fun i hi => ?_⟩
    rw [List.mem_append] at hi
    rw [o2 i fun z => hi (.inr z), o1 i fun z => hi (.inl z)]
  refine assignInOrder_cons (thn (h1.run pins s σ H x u _ I ru w1) ?_)
  intro _ s1 ⟨σ1, H1, I1, q1⟩
  exact assignInOrder_cons (thn (h2.run pins s1 σ1 H1 y v Q I1 rv q1) fun _ s2 q2 => assignInOrder_nil q2)
theorem t_pair (hc : X.calm = true) (h1 : PG X t1 (TGv X.K vs1 g1)) (h2 : PG X t2 (TGv X.K vs2 g2)) (hf : (assignEach [t1, t2] X.env) = [(false, assign t1 X.env), (false, assign t2 X.env)] := by kernel_rfl!) :
    PG X (.Tuple [t1, t2] k pos) (TGv X.K (vs1 ++ vs2) (gPair g1 g2)) := by
  refine ⟨fun pins s σ H v u Q I r hw => ?_⟩
  obtain ⟨S, F, ρ, dk, d, ρ2, R, rv, e, q⟩ := hw
  unfold gPair at e
  split at e
  case h_2 => cases e
  rename_i x y
  cases e1 : g1 x ρ with
  | none => rw [e1] at e; cases e
  | some ρ1 =>
    rw [e1] at e
    simp only [Option.bind_some] at e
    cases rv with
    | tup hs hr =>
      cases hr with
      | cons rx rr =>
        cases rr with
        | cons ry rn =>
          cases rn
          cases r
          obtain ⟨its, rvs, ht, hz'⟩ := I.tuple (R.sh.sqT hs)
          cases rvs with
          | cons rv1 rvr =>
            cases rvr with
            | cons rv2 rvn =>
              cases rvn
              refine assign_Tuple_tuple (I.ok.hd hc) ht (by rw [hf]; rfl) (by rw [hf]; rfl) fun h' hx => ?_
              have I1 : Inv X pins σ H { s with heap := h' } := I.kept (t' := s.toks) fun b o e => hx b o (Nat.ne_of_lt (Heap.lt_size e)) e
              rw [hf]
              exact two_goals h1 h2 I1 R rv1 rv2 rx ry e1 e fun σ' H' S' l R' n o => q σ' H' S' l R' n o
theorem t_name {i : Nat} {x : Str} (hN : X.N.Nodup) (hi : X.N[i]? = some x) (hx : Loc X.env.scope x) (hf : X.fn x = true ∨ X.env.scope.names.lookup x = some .local := by first | exact .inl (by kernel_rfl!) | exact .inr (by kernel_rfl!) | assumption) : PG X (.Name x pos) (TGv X.K [i] (gSet i)) :=
  (pg_name hN hi hx hf).imp fun _ _ _ _ h => tgv_set h
end
end WS
namespace WS
open PySem PySem.Spec PyProof.Rows L2
abbrev Fn := List D → Dk → Option (D × Dk)
def spS (K : PySem.W.Frag) (n : Nat) (f : Fn) : Sp := fun vs H Q _ => vs.length = n ∧ ∃ S F ds dk d dk', Rep K [] H S F [] dk ∧ RpL K S vs ds ∧ f ds dk = some (d, dk') ∧
  ∀ v H' S', Le S S' → Rep K [] H' S' F [] dk' → Rp K S' v d → Q v H'
def runS (n : Nat) (body : SS) : Fn := fun ds k => (body (ds.map Sl.val ++ List.replicate (n - ds.length) Sl.no) k).bind fun x => match x.1 with
  | .rt d => some (d, x.2.2)
  | .nx => some (.non, x.2.2)
  | _ => none
def eCallF (n : Nat) (f : Fn) (a : EL) : E := fun ρ k => (a ρ k).bind fun x => if x.1.length = n then (f x.1 x.2.2).map fun y => (y.1, x.2.1, y.2) else none
section
variable {K : PySem.W.Frag} {σ : L2.St} {H : Hp} {S : Sx} {F : Hp} {ρ : List Sl} {dk : Dk}
theorem Rep.drop (r : Rep K σ H S F ρ dk) : Rep K [] H S F [] dk :=
  ⟨r.sh, r.fh, r.fs, rfl, fun i s e => by simp at e, fun i j d e p h => by simp at h, r.dka.imp fun a ⟨i, d, h, _⟩ => by simp at h⟩
theorem Rep.enter {N : List Str} {vs : List V} {ds : List D} (r : Rep K [] H S F [] dk) (h : RpL K S vs ds) (hn : vs.length ≤ N.length) : Rep K (L2.start N vs) H S F (ds.map Sl.val ++ List.replicate (N.length - ds.length) Sl.no) dk := by
  have hl := h.length
  have key : ∀ (i : Nat) (s : Sl), (ds.map Sl.val ++ List.replicate (N.length - ds.length) Sl.no)[i]? = some s → s = .no ∨ ∃ d, s = .val d ∧ ds[i]? = some d := fun i s e => by
    rw [List.getElem?_append] at e
    split at e
    · rw [List.getElem?_map] at e
      cases q : ds[i]? with
      | none => rw [q] at e; cases e
      | some d => rw [q] at e; cases e; exact .inr ⟨d, rfl, rfl⟩
    · rw [List.getElem?_replicate] at e
      split at e
      · cases e; exact .inl rfl
      · cases e
  have noOwn : ∀ (i : Nat) (d : D), (ds.map Sl.val ++ List.replicate (N.length - ds.length) Sl.no)[i]? = some (Sl.own d) → False := fun i d e => by
    rcases key i _ e with z | ⟨_, z, _⟩ <;> cases z
  refine ⟨r.sh, r.fh, r.fs, by unfold L2.start; simp [hl], fun i s e => ?_, fun i j d e p h1 => (noOwn i d h1).elim, r.dka.imp fun a ⟨i, d, h, _⟩ => (noOwn i d h).elim⟩
  rcases key i s e with z | ⟨d, z, hd⟩
  · subst z; trivial
  · subst z
    obtain ⟨v, hv, rv⟩ := h.get hd
    refine ⟨v, ?_, rv⟩
    have hi : i < vs.length := by
      by_cases hi : i < vs.length
      · exact hi
      · rw [List.getElem?_eq_none (Nat.le_of_not_lt hi)] at hv; cases hv
    unfold L2.start
    rw [List.getElem?_append_left (by simpa using hi), List.getElem?_map, hv]
    rfl
open Classical in
/-- the frame with the own things of the slots -/
noncomputable def ownF (σ : L2.St) (H F : Hp) (ρ : List Sl) : Hp := fun a => if Owns σ ρ a then H a else F a
theorem Rep.leave (r : Rep K σ H S F ρ dk) : Rep K [] H S (ownF σ H F ρ) [] dk := by
  have at_ : ∀ p, Owns σ ρ p → S.hp p = none := fun p ⟨i, d, h1, h2⟩ => by
    obtain ⟨p', q1, q2, q3, q4⟩ := r.env i _ h1
    rw [h2] at q1; cases q1
    exact q3
  refine ⟨r.sh, fun a o e => ?_, fun a o e => ?_, rfl, fun i s e => by simp at e, fun i j d e p h => by simp at h, ?_⟩
  · unfold ownF at e
    split at e
    · exact e
    · exact r.fh _ _ e
  · unfold ownF at e
    split at e
    · rename_i h; exact at_ a h
    · exact r.fs _ _ e
  · have q := r.dka
    cases dk with
    | none => exact q
    | some x =>
      obtain ⟨cells, at_, sum, st⟩ := x
      obtain ⟨a, c, q1, q2, q3, q4, q5, q6, q7, q8, q9, q10⟩ := q
      have no : ∀ b, ¬ Owns [] [] b := fun b ⟨i, d, h, _⟩ => by simp at h
      exact ⟨a, c, q1, q2, q3, q4, q5, by unfold ownF; rw [if_neg q8]; exact q6, by unfold ownF; rw [if_neg q9]; exact q7, no a, no c, q10.move (Le.refl S) rfl fun b o _ z1 z2 z3 z4 _ _ => ⟨z1, z2, by unfold ownF; rw [if_neg z4]; exact z3, no b⟩⟩
theorem Rep.back {H' : Hp} {S' : Sx} {dk' : Dk} (r : Rep K σ H S F ρ dk) (l : Le S S') (r' : Rep K [] H' S' (ownF σ H F ρ) [] dk') : Rep K σ H' S' F ρ dk' := by
  have own : ∀ p, Owns σ ρ p → ownF σ H F ρ p = H p := fun p h => if_pos h
  have off : ∀ p, ¬ Owns σ ρ p → ownF σ H F ρ p = F p := fun p h => if_neg h
  have nof : ∀ p, Owns σ ρ p → F p = none := fun p ⟨i, d, h1, h2⟩ => by
    obtain ⟨p', q1, q2, q3, q4⟩ := r.env i _ h1
    rw [h2] at q1; cases q1
    exact q4
  have Fof : ∀ a o, F a = some o → ownF σ H F ρ a = some o := fun a o e => by
    rw [off a fun h => by rw [nof a h] at e; cases e]; exact e
  refine ⟨r'.sh, fun a o e => r'.fh a o (Fof a o e), fun a o e => r'.fs a o (Fof a o e), r.len, fun i s e => ?_, r.dist, ?_⟩
  · have q := r.env i s e
    cases s with
    | no => trivial
    | val d => obtain ⟨v, q1, q2⟩ := q; exact ⟨v, q1, q2.mono l⟩
    | own d =>
      obtain ⟨p, q1, q2, q3, q4⟩ := q
      have ow : Owns σ ρ p := ⟨i, d, e, q1⟩
      have same : ∀ o, H p = some o → H' p = some o := fun o ho => r'.fh p o (by rw [own p ow]; exact ho)
      refine ⟨p, q1, ?_, ?_, q4⟩
      · cases d with
        | lst ds => obtain ⟨xs, e1, e2⟩ := q2; exact ⟨xs, same _ e1, e2.mono l⟩
        | dct ks ds => obtain ⟨xs, e1, e2, e3⟩ := q2; exact ⟨xs, same _ e1, e2, e3.mono l⟩
        | ins nm ns ds => obtain ⟨C, dx, fs, e1, e2, e3, e4, e5⟩ := q2; exact ⟨C, dx, fs, same _ e1, e2, e3, e4, e5.mono l⟩
        | _ => exact q2.elim
      · obtain ⟨o, ho⟩ := q2.at
        exact r'.fs p o (by rw [own p ow]; exact ho)
  · have q := r'.dka
    cases dk' with
    | none => exact q
    | some x =>
      obtain ⟨cells, at_, sum, st⟩ := x
      obtain ⟨a, c, q1, q2, q3, q4, q5, q6, q7, q8, q9, q10⟩ := q
      have no : ∀ b, ownF σ H F ρ b = none → ¬ Owns σ ρ b := fun b e h => by
        obtain ⟨i, d, h1, h2⟩ := h
        obtain ⟨p', z1, z2, z3, z4⟩ := r.env i _ h1
        rw [h2] at z1; cases z1
        obtain ⟨o, ho⟩ := z2.at
        rw [own b ⟨i, d, h1, h2⟩, ho] at e; cases e
      exact ⟨a, c, q1, q2, q3, q4, q5, by rw [← off a (no a q6)]; exact q6, by rw [← off c (no c q7)]; exact q7, no a q6, no c q7, q10.move (Le.refl S') rfl fun b o _ z1 z2 z3 z4 _ _ => ⟨z1, z2, by rw [← off b (no b z3)]; exact z3, no b z3⟩⟩
theorem tev_callF {n : Nat} {f : Fn} {fs : EL} {Ex : XK} {Q : VK} (h : TEv K (eCallF n f fs) σ H Q) : tCall (spS K n f) [] Ex (TAv K fs) σ H Q := by
  obtain ⟨S, F, ρ, dk, d, ρ', dk', R, e, q⟩ := h
  unfold eCallF at e
  cases ea : fs ρ dk with
  | none => rw [ea] at e; cases e
  | some x =>
    obtain ⟨ds, ρ1, k1⟩ := x
    rw [ea] at e
    simp only [Option.bind_some] at e
    split at e
    case isFalse => cases e
    rename_i hn
    cases ef : f ds k1 with
    | none => rw [ef] at e; cases e
    | some y =>
      obtain ⟨d', k2⟩ := y
      rw [ef] at e
      simp only [Option.map_some] at e
      cases e
      refine ⟨S, F, ρ, dk, ds, ρ', k1, R, ea, fun vs H1 S1 l1 R1 rv => ?_⟩
      show spS K n f (vs ++ []) H1 Q Ex
      rw [List.append_nil]
      exact ⟨by rw [rv.length]; exact hn, S1, _, ds, k1, d, dk', R1.leave, rv, ef, fun v H2 S2 l2 R2 rv2 => q v H2 S2 (l1.trans l2) (R1.back l2 R2) rv2⟩
end
section
variable {P : Program} {w : World} {K : PySem.W.Frag} {mg : Str → Option Value} {base : Heap} {k : Nat} {f : Addr} {fd : FuncData} {ps : List Str}
/-- a def computes what its body's term says -/
theorem fnS {x qual : Str} {st : Stmt} {N : List Str} {body : SS} (n : Nat) (hps : ps.length = n) (hN : n ≤ N.length) (Fu : Fun K x qual st f fd) (SC : FnScope N ps (defScope st))
    (hb : ∀ (cdv : Value) (A : Around) (outer : List Env) (s : Shared) (H : Hp) (E : XK), A.guards = some [] → Room k (A.deeper (envOfC qual (defScope st) s.heap.objs.size f cdv)) →
      PSs (cxOf CX0 P w K mg base N qual (defScope st) f cdv A outer s H E).nox (defBody st) (TSv K W0 body)) : FnG P w K mg base CX0 (k + 1) f fd ps (spS K n (runS N.length body)) := by
  refine fnG0 Fu SC (fun vs H Q E h => h.1.trans hps.symm) fun cdv A outer s H vs Q E hg hr h => ?_
  obtain ⟨hl, S, F, ds, dk, d, dk', R, rv, e, q⟩ := h
  refine ⟨_, hb cdv A outer s H E hg hr, ?_⟩
  unfold runS at e
  cases eb : body (ds.map Sl.val ++ List.replicate (N.length - ds.length) Sl.no) dk with
  | none => rw [eb] at e; cases e
  | some y =>
    obtain ⟨o, ρ', k'⟩ := y
    rw [eb] at e
    simp only [Option.bind_some] at e
    refine ⟨S, F, _, dk, o, ρ', k', R.enter rv (by omega), eb, ?_⟩
    cases o with
    | nx => cases e; exact fun σ' H' S' l R' => q _ H' S' l R'.drop .non
    | rt d' => cases e; exact fun v σ' H' S' l R' rv' => q v H' S' l R'.drop rv'
    | bk => cases e
    | ct => cases e
    | ex C ns ds => cases e
end
end WS
namespace WS
open PySem PySem.Spec PyProof.Rows L2
variable {W : WX}
def iSeq (e : E) : EL := fun ρ k => (e ρ k).bind fun x => match x.1 with
  | .lst ds => some (ds, x.2.1, x.2.2)
  | .rdl ds => some (ds, x.2.1, x.2.2)
  | .tup ds => some (ds, x.2.1, x.2.2)
  | _ => none
def rangeD (lo : Int) (n : Nat) (c : Int) : List D := (List.range n).map fun i : Nat => .int (lo + (i : Int) * c)
def gRange1 : List D → Option (List D)
  | [.int j] => if -(2 ^ 62) ≤ j ∧ j < 2 ^ 62 then some (rangeD 0 j.toNat 1) else none
  | _ => none
def iApp (g : List D → Option (List D)) (a : EL) : EL := fun ρ k => (a ρ k).bind fun x => (g x.1).map fun z => (z, x.2.1, x.2.2)
section
variable {K : PySem.W.Frag} {S : Sx}
theorem itd_list' {a : Addr} {xs : List V} {ds : List D} (h : SqL K S.hp a xs) (r : RpL K S xs ds) : ItD K S (Itl K a) ds := by
  intro S1 H1 l sh i
  have h1 : SqL K H1 a xs := sh.sqL (l.s.sqL h)
  refine ⟨fun d hd => ?_, fun hd => ?_⟩
  · obtain ⟨v, hv, rv⟩ := r.get hd
    refine ⟨⟨xs, v, h1, hv⟩, fun x H2 y => ?_⟩
    obtain ⟨e, q⟩ := y
    subst e
    have z := q xs h1
    rw [hv] at z
    cases z
    exact ⟨S1, Grow.refl sh, rv.mono l⟩
  · exact ⟨xs, h1, by rw [r.length]; exact List.getElem?_eq_none_iff.mp hd⟩
theorem itd_tup {a : Addr} {xs : List V} {ds : List D} (h : SqT K S.hp a xs) (r : RpL K S xs ds) : ItD K S (Itt K a) ds := by
  intro S1 H1 l sh i
  have h1 : SqT K H1 a xs := sh.sqT (l.s.sqT h)
  refine ⟨fun d hd => ?_, fun hd => ?_⟩
  · obtain ⟨v, hv, rv⟩ := r.get hd
    refine ⟨⟨xs, v, h1, hv⟩, fun x H2 y => ?_⟩
    obtain ⟨e, q⟩ := y
    subst e
    have z := q xs h1
    rw [hv] at z
    cases z
    exact ⟨S1, Grow.refl sh, rv.mono l⟩
  · exact ⟨xs, h1, by rw [r.length]; exact List.getElem?_eq_none_iff.mp hd⟩
theorem rangeD_get {lo : Int} {n : Nat} {c : Int} {i : Nat} {d : D} (h : (rangeD lo n c)[i]? = some d) : i < n ∧ d = .int (lo + (i : Int) * c) := by
  unfold rangeD at h
  rw [List.getElem?_map] at h
  by_cases hi : i < n
  · rw [List.getElem?_range hi] at h
    cases h
    exact ⟨hi, rfl⟩
  · rw [List.getElem?_eq_none (by simpa using Nat.le_of_not_lt hi)] at h; cases h
theorem rangeD_none {lo : Int} {n : Nat} {c : Int} {i : Nat} (h : (rangeD lo n c)[i]? = none) : n ≤ i := by
  have := List.getElem?_eq_none_iff.mp h
  simpa [rangeD] using this
theorem itd_range {lo : Int} {n : Nat} : ItD K S (Itr lo n) (rangeD lo n 1) := by
  intro S1 H1 l sh i
  refine ⟨fun d hd => ?_, fun hd => rangeD_none hd⟩
  obtain ⟨hi, e⟩ := rangeD_get hd
  refine ⟨hi, fun x H2 y => ?_⟩
  obtain ⟨e1, e2⟩ := y
  subst e1 e2 e
  rw [Int.mul_one]
  exact ⟨S1, Grow.refl sh, .int _⟩
theorem zip_get {f : D → D → D} {xs ys : List D} {i : Nat} {d : D} (h : (List.zipWith f xs ys)[i]? = some d) : ∃ x y, xs[i]? = some x ∧ ys[i]? = some y ∧ d = f x y := by
  rw [List.getElem?_zipWith] at h
  cases hx : xs[i]? with
  | none => rw [hx] at h; cases h
  | some x =>
    cases hy : ys[i]? with
    | none => rw [hx, hy] at h; cases h
    | some y => rw [hx, hy] at h; cases h; exact ⟨x, y, rfl, rfl, rfl⟩
theorem zip_none {f : D → D → D} {xs ys : List D} {i : Nat} (h : (List.zipWith f xs ys)[i]? = none) : xs.length ≤ i ∨ ys.length ≤ i := by
  have := List.getElem?_eq_none_iff.mp h
  rw [List.length_zipWith] at this
  omega
end
section
variable {X : Cx} {tg e e2 : Expr} {f : E} {fs : EL} {p pos tpos : Pos} {elts : List Expr} {kk : Nat}
/-- what is asked of an argument list -/
theorem tiv_app {t : TA → TI} {g : List D → Option (List D)} {σ : L2.St} {H : Hp} {R : It → Hp → Prop} {r : List V → Hp → (It → Hp → Prop) → Prop}
    (ht : ∀ t' σ H R, t' σ H (fun xs H1 => r xs H1 R) → t t' σ H R)
    (hr : ∀ (S : Sx) (H : Hp) (vs : List V) (ds zs : List D) (R : It → Hp → Prop), Sub S.hp H → RpL X.K S vs ds → g ds = some zs → (∀ J, ItD X.K S J zs → R J H) → r vs H R) (h : TIv X.K (iApp g fs) σ H R) : t (TAv X.K fs) σ H R := by
  obtain ⟨S, F, ρ, dk, ds, ρ', dk', Rr, e, q⟩ := h
  unfold iApp at e
  cases ea : fs ρ dk with
  | none => rw [ea] at e; cases e
  | some x =>
    obtain ⟨d, ρ1, k1⟩ := x
    rw [ea] at e
    simp only [Option.bind_some] at e
    cases eg : g d with
    | none => rw [eg] at e; cases e
    | some z =>
      rw [eg] at e
      simp only [Option.map_some] at e
      cases e
      refine ht _ σ H R ⟨S, F, ρ, dk, d, _, _, Rr, ea, fun v H1 S1 l1 R1 rv => ?_⟩
      exact hr S1 H1 v d _ R R1.sh rv eg fun J it => q J H1 S1 l1 R1 it
theorem i_range1 (hg : Gl X "range") (hm : X.mg "range" = none) (ha : PA X [e] (TAv X.K fs)) (hs : starEach [e] X.env = [(false, eval e X.env)] := by kernel_rfl!) : PI X tg (.Call (.Name "range" p) [e] [] pos) (TIv X.K (iApp gRange1 fs)) :=
  (pi_range1 hg hm ha hs).imp fun σ H R h => tiv_app (t := iRng1) (r := fun vs H1 R => ∃ j : Int, vs = [.int j] ∧ -(2 ^ 62) ≤ j ∧ j < 2 ^ 62 ∧ R (Itr 0 j.toNat) H1) (fun _ _ _ _ h => h) (fun S H vs ds zs R sh r e q => by
    unfold gRange1 at e
    split at e
    case h_2 => cases e
    split at e
    case isFalse => cases e
    rename_i hc
    cases e
    cases r with
    | cons r1 r2 =>
      cases r1
      cases r2
      exact ⟨_, rfl, hc.1, hc.2, q _ itd_range⟩) h
end
section
variable {X : Cx} {st : Stmt} {rest as bs : List Stmt} {a b : SS} {e c tg iter : Expr} {f fc : E} {g : Tg} {vs : List Nat} {src : EL} {pos : Pos}
theorem s_nil : PSs X [] (TSv X.K W sNil) := pss_nil.imp fun _ _ _ h => tsv_nil h
theorem s_cons (h1 : PS X st (TSv X.K W a)) (h2 : PSs X rest (TSv X.K W b)) : PSs X (st :: rest) (TSv X.K W (sSeq a b)) := (pss_cons h1 h2).imp fun _ _ _ h => tsv_seq h
theorem s_ret (h : PE X e (TEv X.K f)) : PS X (.Return (some e) pos) (TSv X.K W (sRet f)) := (ps_ret h).imp fun _ _ _ h => tsv_ret h
theorem s_expr (h : PE X e (TEv X.K f)) (hs : swapsWith e none pos.line X.env = pure false := by kernel_rfl!) : PS X (.Expr e pos) (TSv X.K W (sDrop f)) := (ps_expr h hs).imp fun _ _ _ h => tsv_drop h
theorem s_if (hc : PT X c (TTv X.K fc)) (ha : PSs X as (TSv X.K W a)) (hb : PSs X bs (TSv X.K W b)) : PS X (.If c as bs pos) (TSv X.K W (sIf fc a b)) := (ps_if hc ha hb).imp fun _ _ _ h => tsv_if h
theorem s_asg (he : PE X e (TEv X.K f)) (hg : PG X tg (TGv X.K vs g)) (hs : swapsWithSole [tg] e pos.line X.env = pure false := by kernel_rfl!) (hw : swappedStores [tg] e X.env = pure none := by kernel_rfl!) (h1 : (assignEach [tg] X.env).map (·.2) = [assign tg X.env] := by kernel_rfl!) :
    PS X (.Assign [tg] e pos) (TSv X.K W (sAsg g f)) := (ps_asg he hg hs hw h1).imp fun _ _ _ h => tsv_asg h
theorem s_for (hi : PI X tg iter (TIv X.K src)) (hg : PG X tg (TGv X.K vs g)) (hb : PSs X as (TSv X.K W a)) (hp : PassesOwn (model X.prog X.w) X.A X.env X.xe) (hc : X.calm = true) (hs : ∀ x, foldedSetIterable iter X.env x = pure x := by intro _; kernel_rfl!) :
    PS X (.For tg iter as [] pos) (TSv X.K W (sFor src g a)) := (ps_for hp hc hi hg hb hs).imp fun _ _ _ h => tsv_for h
theorem q_nil : PTs X [] (TTv X.K (eC (.bl true))) := ⟨fun pins s σ H Q I h => pts_nil.run pins s σ H Q I (by
  obtain ⟨S, F, ρ, dk, b, ρ', dk', R, e, q⟩ := h
  cases e
  exact q H S (Le.refl S) R)⟩
theorem q_one (h : PT X c (TTv X.K fc)) : PTs X [c] (TTv X.K fc) := pts_one h
variable {elt : Expr} {ifs : List Expr} {scope : Scope} {own : List (Str × Nat)} {tt ft : E}
theorem d_comp (hc : X.calm = true) (hN : X.N.Nodup) (hi : PI X tg iter (TIv X.K src)) (ok : BlkOk X.N X.env.scope scope own)
    (hg : ∀ (s : Shared) (H : Hp) (C : Addr) (cl : List (Str × Addr)) (fp : List Addr), PG (X.blk s H scope (compEnvC scope cl C X.env) fp) tg (TGv X.K (own.map (·.2)) g))
    (ht : ∀ (s : Shared) (H : Hp) (C : Addr) (cl : List (Str × Addr)) (fp : List Addr), PTs (X.blk s H scope (compEnvC scope cl C X.env) fp) ifs (TTv X.K tt))
    (he : ∀ (s : Shared) (H : Hp) (C : Addr) (cl : List (Str × Addr)) (fp : List Addr), PE (X.blk s H scope (compEnvC scope cl C X.env) fp) elt (TEv X.K ft)) (hs : ∀ x, foldedSetIterable iter X.env x = pure x := by intro _; kernel_rfl!) :
    PE X (.ListComp elt [⟨tg, iter, ifs, 0⟩] scope pos) (TEv X.K (eComp src (own.map (·.2)) g tt ft)) := (pe_lc hc hN hi ok hg ht he hs).imp fun _ _ _ h => tev_comp h
theorem s_comp {i : Nat} {y : Str} {py spos : Pos} (hc : X.calm = true) (hN : X.N.Nodup) (hy : X.N[i]? = some y) (hyl : X.env.scope.names.lookup y = some .local)
    (hsw : swapsWith (.ListComp elt [⟨tg, iter, ifs, 0⟩] scope pos) (some (.Name y py)) spos.line X.env = pure true) (hi : PI X tg iter (TIv X.K src)) (ok : BlkOk X.N X.env.scope scope own)
    (hg : ∀ (s : Shared) (H : Hp) (C : Addr) (cl : List (Str × Addr)) (fp : List Addr), PG (X.blk s H scope (compEnvC scope cl C X.env) fp) tg (TGv X.K (own.map (·.2)) g))
    (ht : ∀ (s : Shared) (H : Hp) (C : Addr) (cl : List (Str × Addr)) (fp : List Addr), PTs (X.blk s H scope (compEnvC scope cl C X.env) fp) ifs (TTv X.K tt))
    (he : ∀ (s : Shared) (H : Hp) (C : Addr) (cl : List (Str × Addr)) (fp : List Addr), PE (X.blk s H scope (compEnvC scope cl C X.env) fp) elt (TEv X.K ft)) (hs : ∀ x, foldedSetIterable iter X.env x = pure x := by intro _; kernel_rfl!) :
    PS X (.Assign [.Name y py] (.ListComp elt [⟨tg, iter, ifs, 0⟩] scope pos) spos) (TSv X.K W (sAsg (gSet i) (eComp src (own.map (·.2)) g tt ft))) :=
  (ps_setLc hc hN hy hyl hsw hi ok hg ht he hs).imp fun D' σ H h => by
    have h2 := tsv_asg (vs := [i]) h
    obtain ⟨S, F, ρ, dk, d, ρ', dk', R, e, q⟩ := h2
    exact tev_comp ⟨S, F, ρ, dk, d, ρ', dk', R, e, fun v H' S' l R' rv => tgv_set (q v H' S' l R' rv)⟩
/-- a def's call -/
theorem d_call {x : Str} {p : Pos} {a : Expr} {es : List Expr} {fs : EL} {fa : Addr} {fd : FuncData} {ps : List Str} {k n : Nat} {F : Fn} (G : FnG X.prog X.w X.K X.mg X.base CX0 k fa fd ps (spS X.K n F)) (hgu : X.A.guards = some []) (hr : Room k X.A) (hg : Gl X x) (hm : X.mg x = some (.ref fa)) (hk : PySem.W.keepIn X.K (.ref fa) = true) (hb : Binds X.K fd ps [])
    (ha : PA X (a :: es) (TAv X.K fs)) (hdb : (x == ("__debug__" : Str)) = false := by decide) (he : starEach (a :: es) X.env = (false, eval a X.env) :: starEach es X.env := by kernel_rfl!) (hpl : (backTo pos (starEach es X.env)).any (·.1) = false := by kernel_rfl!) :
    PE X (.Call (.Name x p) (a :: es) [] pos) (TEv X.K (eCallF n F fs)) := (callG (E := E0) G hgu hr hg hm hk hb .nil pass0 ha hdb he hpl).imp fun _ _ _ h => tev_callF h
theorem d_call0 {x : Str} {p : Pos} {fa : Addr} {fd : FuncData} {ps : List Str} {k n : Nat} {F : Fn} (G : FnG X.prog X.w X.K X.mg X.base CX0 k fa fd ps (spS X.K n F)) (hgu : X.A.guards = some []) (hr : Room k X.A) (hg : Gl X x) (hm : X.mg x = some (.ref fa)) (hk : PySem.W.keepIn X.K (.ref fa) = true) (hb : Binds X.K fd ps [])
    (hdb : (x == ("__debug__" : Str)) = false := by decide) : PE X (.Call (.Name x p) [] [] pos) (TEv X.K (eCallF n F aNil)) := (callG0 (E := E0) G hgu hr hg hm hk hb .nil pass0 hdb).imp fun σ H Q h => by
  have h2 := tev_callF (Ex := E0) h
  have h3 : TAv X.K aNil σ H fun vs H1 => spS X.K n F (vs ++ []) H1 Q E0 := h2
  exact tav_nil h3
end
end WS
namespace WS
open PySem PySem.Spec PyProof.Rows L2
def gAdd : D → D → Option D
  | .int i, .int j => some (.int (i + j))
  | .int i, .bl k => some (.int (i + b2i k))
  | .str a, .str b => if a.length + b.length ≤ sizeLine then some (.str (a ++ b)) else none
  | .tup a, .tup b => if a.length + b.length ≤ sizeLine then some (.tup (a ++ b)) else none
  | .lst a, .lst b => if a.length + b.length ≤ sizeLine then some (.lst (a ++ b)) else none
  | _, _ => none
def gSub : D → D → Option D
  | .int i, .int j => some (.int (i - j))
  | _, _ => none
def gMul : D → D → Option D
  | .int i, .int j => if (-(2 ^ 64) < i ∧ i < 2 ^ 64) ∨ (-(2 ^ 64) < j ∧ j < 2 ^ 64) then some (.int (i * j)) else none
  | _, _ => none
def gMod : D → D → Option D
  | .int i, .int j => if 0 < j then some (.int (i % j)) else none
  | _, _ => none
def gPow : D → D → Option D
  | .int i, .int j => if 0 ≤ j ∧ j ≤ 1000000 ∧ i.natAbs < 2 ^ 64 then some (.int (i ^ j.toNat)) else none
  | _, _ => none
def gNeg : D → Option D
  | .int i => some (.int (-i))
  | _ => none
section
variable {X : Cx}
/-- two ints in, an int out -/
theorem opx_I {f : Value → Value → Sem Value} {C : Int → Int → Prop} {h : Int → Int → Int} {g : D → D → Option D} (hr : OpR X f (rI C fun i j => .int (h i j)))
    (hg : ∀ d e z, g d e = some z → ∃ i j, d = .int i ∧ e = .int j ∧ C i j ∧ z = .int (h i j)) : OpX X f g := by
  refine ⟨_, hr, fun S H x y d e z Q sh rx ry eg q => ?_⟩
  obtain ⟨i, j, rfl, rfl, c, rfl⟩ := hg d e z eg
  cases rx
  cases ry
  exact ⟨i, j, rfl, rfl, c, q _ S H (Grow.refl sh) (.int _)⟩
theorem x_sub : OpX X (binaryOp .Sub) gSub := by
  refine ⟨_, op_sub, fun S H x y d e z Q sh rx ry eg q => ?_⟩
  unfold gSub at eg
  split at eg
  case h_2 => cases eg
  cases eg
  cases rx
  cases ry
  exact ⟨_, _, rfl, rfl, q _ S H (Grow.refl sh) (.int _)⟩
theorem x_mul : OpX X (binaryOp .Mult) gMul := opx_I op_mul fun d e z h => by
  unfold gMul at h
  split at h
  case h_2 => cases h
  split at h
  · rename_i c; cases h; exact ⟨_, _, rfl, rfl, c, rfl⟩
  · cases h
theorem x_mod : OpX X (binaryOp .Mod) gMod := opx_I op_mod fun d e z h => by
  unfold gMod at h
  split at h
  case h_2 => cases h
  split at h
  · rename_i c; cases h; exact ⟨_, _, rfl, rfl, c, rfl⟩
  · cases h
theorem x_pow : OpX X (binaryOp .Pow) gPow := opx_I op_pow fun d e z h => by
  unfold gPow at h
  split at h
  case h_2 => cases h
  split at h
  · rename_i c; cases h; exact ⟨_, _, rfl, rfl, c, rfl⟩
  · cases h
theorem x_neg : UnX X (unaryOp .USub) gNeg := by
  refine ⟨_, un_neg, fun S H x d z Q sh rx eg q => ?_⟩
  unfold gNeg at eg
  split at eg
  case h_2 => cases eg
  cases eg
  cases rx
  exact ⟨_, rfl, q _ S H (Grow.refl sh) (.int _)⟩
/-- one of several readings -/
theorem x_add : OpX X (binaryOp .Add) gAdd := by
  refine ⟨_, (op_add.or op_add_ib).or (op_add_str.or (op_catA.or op_cat)), fun S H x y d e z Q sh rx ry eg q => ?_⟩
  unfold gAdd at eg
  split at eg
  · cases eg
    cases rx
    cases ry
    exact .inl (.inl ⟨_, _, rfl, rfl, q _ S H (Grow.refl sh) (.int _)⟩)
  · cases eg
    cases rx
    cases ry
    exact .inl (.inr ⟨_, _, rfl, rfl, q _ S H (Grow.refl sh) (.int _)⟩)
  · split at eg
    case isFalse => cases eg
    rename_i hl
    cases eg
    cases rx
    cases ry
    exact .inr (.inl ⟨_, _, rfl, rfl, hl, q _ S H (Grow.refl sh) (.str _)⟩)
  · split at eg
    case isFalse => cases eg
    rename_i hl
    cases eg
    cases rx with
    | tup h1 r1 =>
      cases ry with
      | tup h2 r2 =>
        refine .inr (.inr (.inl ⟨_, _, _, _, rfl, rfl, sh.sqT h1, sh.sqT h2, by rw [r1.length, r2.length]; exact hl, fun e => ?_, fun e1 e2 => ?_, fun e1 e2 p hp => ?_⟩))
        · subst e
          cases r1
          exact q _ S H (Grow.refl sh) (by simpa using Rp.tup h2 r2)
        · subst e2
          cases r2
          exact q _ S H (Grow.refl sh) (by simpa using Rp.tup h1 r1)
        · exact q _ _ _ (Grow.add sh hp) (.tup (.inl (.inl Sx.add_at)) ((r1.app r2).mono (Grow.add sh hp).le))
  · split at eg
    case isFalse => cases eg
    rename_i hl
    cases eg
    cases rx with
    | lst h1 r1 =>
      cases ry with
      | lst h2 r2 =>
        refine .inr (.inr (.inr ⟨_, _, _, _, rfl, rfl, sh _ _ h1, sh _ _ h2, by rw [r1.length, r2.length]; exact hl, fun p hp => ?_⟩))
        exact q _ _ _ (Grow.add sh hp) (.lst Sx.add_at ((r1.app r2).mono (Grow.add sh hp).le))
  · cases eg
end
def gLt : D → D → Option D
  | .int i, .int j => some (.bl (decide (i < j)))
  | .str a, .str b => some (.bl (decide (a.cps.toList < b.cps.toList)))
  | _, _ => none
def gLe : D → D → Option D
  | .int i, .int j => some (.bl (decide (i ≤ j)))
  | .str a, .str b => some (.bl (!decide (b.cps.toList < a.cps.toList)))
  | _, _ => none
def gGt : D → D → Option D
  | .int i, .int j => some (.bl (decide (j < i)))
  | .str a, .str b => some (.bl (decide (b.cps.toList < a.cps.toList)))
  | _, _ => none
def gGe : D → D → Option D
  | .int i, .int j => some (.bl (decide (j ≤ i)))
  | .str a, .str b => some (.bl (!decide (a.cps.toList < b.cps.toList)))
  | _, _ => none
def isNonD : D → Bool
  | .non => true
  | _ => false
def gIs : D → D → Option D
  | .bl a, .bl b => some (.bl (decide (a = b)))
  | d, .non => some (.bl (isNonD d))
  | _, _ => none
def gIsNot : D → D → Option D
  | .bl a, .bl b => some (.bl (!decide (a = b)))
  | d, .non => some (.bl (!isNonD d))
  | _, _ => none
mutual
def toP : D → Option PyData
  | .non => some .none
  | .bl b => some (.bool b)
  | .int i => some (.int i)
  | .str x => some (.str x)
  | .tup xs => (toPs xs).map .tuple
  | .lst xs => (toPs xs).map .list
  | .rdl xs => (toPs xs).map .list
  | _ => none
def toPs : List D → Option (List PyData)
  | [] => some []
  | x :: r => (toP x).bind fun p => (toPs r).map fun q => p :: q
end
def eqD (d e : D) : Option Bool := (toP d).bind fun p => (toP e).bind fun q => if SeqAt.shaped p = true ∧ SeqAt.shaped q = true then some (PyData.eqv p q) else none
def gEq (d e : D) : Option D := (eqD d e).map .bl
def gNe (d e : D) : Option D := (eqD d e).map fun b => .bl (!b)
section
variable {K : PySem.W.Frag} {S : Sx} {H : Hp}
mutual
theorem toP_dp (sh : Sub S.hp H) : ∀ {v : V} {d : D} {p : PyData}, Rp K S v d → toP d = some p → Dp K H v p
  | _, _, _, .non, e => by cases e; exact .non
  | _, _, _, .bl b, e => by cases e; exact .bl b
  | _, _, _, .int i, e => by cases e; exact .int i
  | _, _, _, .str x, e => by cases e; exact .str x
  | _, .tup ds, p, .tup h r, e => by
    unfold toP at e
    cases q : toPs ds with
    | none => rw [q] at e; cases e
    | some ps => rw [q] at e; cases e; exact .tup (sh.sqT h) (toPs_dp sh r q)
  | _, .lst ds, p, .lst h r, e => by
    unfold toP at e
    cases q : toPs ds with
    | none => rw [q] at e; cases e
    | some ps => rw [q] at e; cases e; exact .lst (.inl (.inl (sh _ _ h))) (toPs_dp sh r q)
  | _, .rdl ds, p, .rdl h r, e => by
    unfold toP at e
    cases q : toPs ds with
    | none => rw [q] at e; cases e
    | some ps => rw [q] at e; cases e; exact .lst (sh.sqL h) (toPs_dp sh r q)
  | _, _, _, .dct _ _ _ _, e => by cases e
  | _, _, _, .ins _ _ _ _ _ _, e => by cases e
  | _, _, _, .exc _ _ _ _ _ _ _, e => by cases e
  | _, _, _, .exc0 _ _ _, e => by cases e
  | _, _, _, .ty _, e => by cases e
  | _, _, _, .obj _, e => by cases e
  | _, _, _, .fn _, e => by cases e
  | _, _, _, .loc _, e => by cases e
  | _, _, _, .deck _, e => by cases e
theorem toPs_dp (sh : Sub S.hp H) : ∀ {v : List V} {d : List D} {p : List PyData}, RpL K S v d → toPs d = some p → DpAll K H v p
  | _, _, _, .nil, e => by cases e; exact .nil
  | _, d :: ds, p, .cons h r, e => by
    unfold toPs at e
    cases q : toP d with
    | none => rw [q] at e; cases e
    | some a =>
      cases q2 : toPs ds with
      | none => rw [q, q2] at e; cases e
      | some b => rw [q, q2] at e; cases e; exact .cons (toP_dp sh h q) (toPs_dp sh r q2)
end
theorem Rp.isNon {v : V} {d : D} (h : Rp K S v d) : decide (v = .non) = isNonD d := by cases h <;> rfl
end
section
variable {X : Cx}
/-- ints or texts -/
theorem opx_IS {f : Value → Value → Sem Value} {h : Int → Int → Bool} {h' : Str → Str → Bool} {g : D → D → Option D} (hr : OpR X f (rI0 fun i j => .bl (h i j))) (hs : OpR X f (fun x y H Q => ∃ i j, x = .str i ∧ y = .str j ∧ Q (.bl (h' i j)) H))
    (hg : ∀ d e z, g d e = some z → (∃ i j, d = .int i ∧ e = .int j ∧ z = .bl (h i j)) ∨ ∃ i j, d = .str i ∧ e = .str j ∧ z = .bl (h' i j)) : OpX X f g := by
  refine ⟨_, hr.or hs, fun S H x y d e z Q sh rx ry eg q => ?_⟩
  rcases hg d e z eg with ⟨i, j, rfl, rfl, rfl⟩ | ⟨i, j, rfl, rfl, rfl⟩
  · cases rx
    cases ry
    exact .inl ⟨i, j, rfl, rfl, q _ S H (Grow.refl sh) (.bl _)⟩
  · cases rx
    cases ry
    exact .inr ⟨i, j, rfl, rfl, q _ S H (Grow.refl sh) (.bl _)⟩
theorem x_lt : OpX X (compareOp .Lt) gLt := opx_IS op_lt op_lt_str fun d e z h => by
  unfold gLt at h
  split at h
  · cases h; exact .inl ⟨_, _, rfl, rfl, rfl⟩
  · cases h; exact .inr ⟨_, _, rfl, rfl, rfl⟩
  · cases h
theorem x_le : OpX X (compareOp .LtE) gLe := opx_IS op_le op_le_str fun d e z h => by
  unfold gLe at h
  split at h
  · cases h; exact .inl ⟨_, _, rfl, rfl, rfl⟩
  · cases h; exact .inr ⟨_, _, rfl, rfl, rfl⟩
  · cases h
theorem x_gt : OpX X (compareOp .Gt) gGt := opx_IS op_gt op_gt_str fun d e z h => by
  unfold gGt at h
  split at h
  · cases h; exact .inl ⟨_, _, rfl, rfl, rfl⟩
  · cases h; exact .inr ⟨_, _, rfl, rfl, rfl⟩
  · cases h
theorem x_ge : OpX X (compareOp .GtE) gGe := opx_IS op_ge op_ge_str fun d e z h => by
  unfold gGe at h
  split at h
  · cases h; exact .inl ⟨_, _, rfl, rfl, rfl⟩
  · cases h; exact .inr ⟨_, _, rfl, rfl, rfl⟩
  · cases h
theorem x_is : OpX X (compareOp .Is) gIs := by
  refine ⟨_, op_is_bl.or op_isN, fun S H x y d e z Q sh rx ry eg q => ?_⟩
  unfold gIs at eg
  split at eg
  · cases eg; cases rx; cases ry
    exact .inl ⟨_, _, rfl, rfl, q _ S H (Grow.refl sh) (.bl _)⟩
  · cases eg; cases ry
    exact .inr ⟨rfl, by rw [rx.isNon]; exact q _ S H (Grow.refl sh) (.bl _)⟩
  · cases eg
theorem x_isnot : OpX X (compareOp .IsNot) gIsNot := by
  refine ⟨_, op_isnot_bl.or op_notN, fun S H x y d e z Q sh rx ry eg q => ?_⟩
  unfold gIsNot at eg
  split at eg
  · cases eg; cases rx; cases ry
    exact .inl ⟨_, _, rfl, rfl, q _ S H (Grow.refl sh) (.bl _)⟩
  · cases eg; cases ry
    exact .inr ⟨rfl, by rw [rx.isNon]; exact q _ S H (Grow.refl sh) (.bl _)⟩
  · cases eg
theorem eqD_spec {d e : D} {b : Bool} (h : eqD d e = some b) : ∃ p q, toP d = some p ∧ toP e = some q ∧ SeqAt.shaped p = true ∧ SeqAt.shaped q = true ∧ b = PyData.eqv p q := by
  unfold eqD at h
  cases hp : toP d with
  | none => rw [hp] at h; cases h
  | some p =>
    cases hq : toP e with
    | none => rw [hp, hq] at h; cases h
    | some q =>
      rw [hp, hq] at h
      simp only [Option.bind_some] at h
      split at h
      · rename_i c; cases h; exact ⟨p, q, rfl, rfl, c.1, c.2, rfl⟩
      · cases h
theorem x_eq (hu : X.A.units + 64 < cLine) : OpX X (compareOp .Eq) gEq := by
  refine ⟨_, op_eqD hu, fun S H x y d e z Q sh rx ry eg q => ?_⟩
  unfold gEq at eg
  cases h : eqD d e with
  | none => rw [h] at eg; cases eg
  | some b =>
    rw [h] at eg
    cases eg
    obtain ⟨p, r, h1, h2, h3, h4, rfl⟩ := eqD_spec h
    exact ⟨p, r, toP_dp sh rx h1, toP_dp sh ry h2, h3, h4, q _ S H (Grow.refl sh) (.bl _)⟩
theorem x_ne (hu : X.A.units + 64 < cLine) : OpX X (compareOp .NotEq) gNe := by
  refine ⟨_, op_neD hu, fun S H x y d e z Q sh rx ry eg q => ?_⟩
  unfold gNe at eg
  cases h : eqD d e with
  | none => rw [h] at eg; cases eg
  | some b =>
    rw [h] at eg
    cases eg
    obtain ⟨p, r, h1, h2, h3, h4, rfl⟩ := eqD_spec h
    exact ⟨p, r, toP_dp sh rx h1, toP_dp sh ry h2, h3, h4, q _ S H (Grow.refl sh) (.bl _)⟩
end
def eChain (g g' : D → D → Option D) (a b c : E) : E := fun ρ k => (a ρ k).bind fun x => (b x.2.1 x.2.2).bind fun y => (g x.1 y.1).bind fun t => match t with
  | .bl true => (c y.2.1 y.2.2).bind fun z => (g' y.1 z.1).map fun u => (u, z.2.1, z.2.2)
  | .bl false => some (.bl false, y.2.1, y.2.2)
  | _ => none
end WS
namespace WS
open PySem PySem.Spec PyProof.Rows L2
def gIx : D → D → Option D
  | .tup xs, .int i => atI xs i
  | .lst xs, .int i => atI xs i
  | .rdl xs, .int i => atI xs i
  | .str x, .int i => if x.length ≤ sizeLine then (atI x.cps.toList i).map fun c => .str ⟨#[c]⟩ else none
  | _, _ => none
def cutD (xs : List D) (lo hi : Option Int) : List D := (xs.drop (HT.sIx xs.length 0 lo)).take (HT.sIx xs.length xs.length hi - HT.sIx xs.length 0 lo)
def gSl : D → Option Int → Option Int → Option D
  | .tup xs, lo, hi => some (.tup (cutD xs lo hi))
  | .lst xs, lo, hi => some (.lst (cutD xs lo hi))
  | .rdl xs, lo, hi => some (.lst (cutD xs lo hi))
  | .str x, lo, hi => if x.length ≤ sizeLine then some (.str (cutS x lo hi)) else none
  | _, _, _ => none
abbrev EO := List Sl → Dk → Option (Option Int × List Sl × Dk)
def oNone : EO := fun ρ k => some (none, ρ, k)
def oSome (e : E) : EO := fun ρ k => (e ρ k).bind fun x => match x.1 with
  | .int i => some (some i, x.2.1, x.2.2)
  | _ => none
def eSl (e : E) (lo hi : EO) : E := fun ρ k => (e ρ k).bind fun x => (lo x.2.1 x.2.2).bind fun l => (hi l.2.1 l.2.2).bind fun u => (gSl x.1 l.1 u.1).map fun z => (z, u.2.1, u.2.2)
def TOv (K : PySem.W.Frag) (f : EO) : TO := fun σ H Q => ∃ S F ρ dk o ρ' dk', Rep K σ H S F ρ dk ∧ f ρ dk = some (o, ρ', dk') ∧ ∀ H' S', Le S S' → Rep K σ H' S' F ρ' dk' → Q o H'
def gRev : D → Option D
  | .tup xs => some (.tup xs.reverse)
  | .lst xs => some (.lst xs.reverse)
  | .rdl xs => some (.lst xs.reverse)
  | _ => none
section
variable {K : PySem.W.Frag} {S : Sx}
theorem RpL.atI {vs : List V} {ds : List D} (r : RpL K S vs ds) {i : Int} {d : D} (h : L2.atI ds i = some d) : ∃ v, L2.atI vs i = some v ∧ Rp K S v d := by
  unfold L2.atI at h ⊢
  rw [r.length]
  cases q : ixN ds.length i with
  | none => rw [q] at h; cases h
  | some j =>
    rw [q] at h
    exact r.get h
theorem RpL.cut {vs : List V} {ds : List D} (r : RpL K S vs ds) (lo hi : Option Int) : RpL K S (cutV vs lo hi) (cutD ds lo hi) := by
  unfold cutV cutD
  rw [r.length]
  exact (r.drop _).take _
theorem RpL.cut_whole {vs : List V} {ds : List D} (r : RpL K S vs ds) {lo hi : Option Int} (h : HT.sIx vs.length 0 lo = 0 ∧ HT.sIx vs.length vs.length hi = vs.length) : cutD ds lo hi = ds := by
  rw [r.length] at h
  unfold cutD
  rw [h.1, h.2]
  simp
end
section
variable {X : Cx} {a b : Expr} {fa : E} {pos p2 : Pos} {lo hi : Option Expr} {fl fh : EO}
theorem x_ix : IxX X gIx := by
  refine ⟨_, ix_seq, fun S H x y d e z Q sh rx ry eg q => ?_⟩
  unfold gIx at eg
  split at eg
  · cases ry
    cases rx with
    | tup h r =>
      obtain ⟨v, hv, rv⟩ := r.atI eg
      exact .inr (.inl ⟨_, _, _, v, rfl, rfl, sh.sqT h, hv, q _ S H (Grow.refl sh) rv⟩)
  · cases ry
    cases rx with
    | lst h r =>
      obtain ⟨v, hv, rv⟩ := r.atI eg
      exact .inl ⟨_, _, _, v, rfl, rfl, .inl (.inl (sh _ _ h)), hv, q _ S H (Grow.refl sh) rv⟩
  · cases ry
    cases rx with
    | rdl h r =>
      obtain ⟨v, hv, rv⟩ := r.atI eg
      exact .inl ⟨_, _, _, v, rfl, rfl, sh.sqL h, hv, q _ S H (Grow.refl sh) rv⟩
  · cases ry
    cases rx
    split at eg
    case isFalse => cases eg
    rename_i x i hl
    cases hc : L2.atI x.cps.toList i with
    | none => rw [hc] at eg; cases eg
    | some c =>
      rw [hc] at eg
      cases eg
      exact .inr (.inr ⟨_, _, c, rfl, rfl, hl, hc, q _ S H (Grow.refl sh) (.str _)⟩)
  · cases eg
theorem tov_none {K : PySem.W.Frag} {σ : L2.St} {H : Hp} {Q : Option Int → Hp → Prop} (h : TOv K oNone σ H Q) : tNoPart σ H Q := by
  obtain ⟨S, F, ρ, dk, o, ρ', dk', R, e, q⟩ := h
  cases e
  exact q H S (Le.refl S) R
theorem tov_some {K : PySem.W.Frag} {σ : L2.St} {H : Hp} {Q : Option Int → Hp → Prop} (h : TOv K (oSome fa) σ H Q) : tPart (TEv K fa) σ H Q := by
  obtain ⟨S, F, ρ, dk, o, ρ', dk', R, e, q⟩ := h
  unfold oSome at e
  cases ea : fa ρ dk with
  | none => rw [ea] at e; cases e
  | some x =>
    obtain ⟨d, ρ1, k1⟩ := x
    rw [ea] at e
    simp only [Option.bind_some] at e
    refine ⟨S, F, ρ, dk, d, ρ1, k1, R, ea, fun v H1 S1 l1 R1 rv => ?_⟩
    split at e
    · cases e
      cases rv
      exact ⟨_, rfl, q H1 S1 l1 R1⟩
    · cases e
theorem _root_.L2.PO.imp {X : Cx} {e : Option Expr} {t t' : TO} (h : PO X e t) (i : ∀ σ H Q, t' σ H Q → t σ H Q) : PO X e t' := ⟨fun pins s σ H Q I q => h.run pins s σ H Q I (i _ _ _ q)⟩
theorem o_none : PO X none (TOv X.K oNone) := po_none.imp fun _ _ _ h => tov_none h
theorem o_some (h : PE X a (TEv X.K fa)) : PO X (some a) (TOv X.K (oSome fa)) := (po_some h).imp fun _ _ _ h => tov_some h
theorem d_slice (he : PE X a (TEv X.K fa)) (hl : PO X lo (TOv X.K fl)) (hu : PO X hi (TOv X.K fh)) : PE X (.Subscript a (.Slice lo hi none p2) pos) (TEv X.K (eSl fa fl fh)) :=
  (pe_slice (sl_tupA.or (sl_list.or sl_str)) he hl hu).imp fun σ H Q h => by
    obtain ⟨S, F, ρ, dk, d, ρ', dk', R, e, q⟩ := h
    unfold eSl at e
    cases ea : fa ρ dk with
    | none => rw [ea] at e; cases e
    | some x =>
      obtain ⟨d1, ρ1, k1⟩ := x
      rw [ea] at e
      simp only [Option.bind_some] at e
      cases el : fl ρ1 k1 with
      | none => rw [el] at e; cases e
      | some y =>
        obtain ⟨l, ρ2, k2⟩ := y
        rw [el] at e
        simp only [Option.bind_some] at e
        cases eh : fh ρ2 k2 with
        | none => rw [eh] at e; cases e
        | some z =>
          obtain ⟨u, ρ3, k3⟩ := z
          rw [eh] at e
          simp only [Option.bind_some] at e
          cases eg : gSl d1 l u with
          | none => rw [eg] at e; cases e
          | some w =>
            rw [eg] at e
            simp only [Option.map_some] at e
            cases e
            refine ⟨S, F, ρ, dk, d1, ρ1, k1, R, ea, fun v H1 S1 l1 R1 rv => ⟨S1, F, ρ1, k1, l, ρ2, k2, R1, el, fun H2 S2 l2 R2 => ⟨S2, F, ρ2, k2, u, _, _, R2, eh, fun H3 S3 l3 R3 => ?_⟩⟩⟩
            have rv3 := (rv.mono l2).mono l3
            have ll := (l1.trans l2).trans l3
            unfold gSl at eg
            split at eg
            · cases eg
              cases rv3 with
              | tup h r =>
                refine .inl ⟨_, _, rfl, R3.sh.sqT h, fun hw => ?_, fun hw p hp => ?_⟩
                · rw [r.cut_whole hw] at q
                  exact q _ H3 S3 ll R3 (.tup h r)
                · exact q _ _ _ (ll.trans (Grow.add R3.sh hp).le) (R3.grow (Grow.add R3.sh hp)) (.tup (.inl (.inl Sx.add_at)) ((r.cut l u).mono (Grow.add R3.sh hp).le))
            · cases eg
              cases rv3 with
              | lst h r =>
                refine .inr (.inl ⟨_, _, rfl, .inl (.inl (R3.sh _ _ h)), fun p hp => ?_⟩)
                exact q _ _ _ (ll.trans (Grow.add R3.sh hp).le) (R3.grow (Grow.add R3.sh hp)) (.lst Sx.add_at ((r.cut l u).mono (Grow.add R3.sh hp).le))
            · cases eg
              cases rv3 with
              | rdl h r =>
                refine .inr (.inl ⟨_, _, rfl, R3.sh.sqL h, fun p hp => ?_⟩)
                exact q _ _ _ (ll.trans (Grow.add R3.sh hp).le) (R3.grow (Grow.add R3.sh hp)) (.lst Sx.add_at ((r.cut l u).mono (Grow.add R3.sh hp).le))
            · split at eg
              case isFalse => cases eg
              rename_i hl
              cases eg
              cases rv3
              exact .inr (.inr ⟨_, rfl, hl, q _ H3 S3 ll R3 (.str _)⟩)
            · cases eg
end
section
variable {prog : Program} {w : World} {A : Around} {E : Value → Shared → Prop} {s : Shared}
theorem rev_places (n : Nat) : Builtin.Slice.sliceAdjust none none (-1) (n : Int) = ((n : Int) - 1, -1) ∧ Builtin.Slice.slicePlaces ((n : Int) - 1) (-1) (-1) = n := by
  refine ⟨rfl, ?_⟩
  unfold Builtin.Slice.slicePlaces
  rw [if_neg (show ¬ ((-1 : Int) > 0) by decide)]
  by_cases h : (n : Int) - 1 > -1
  · rw [if_pos h]
    have e : ((n : Int) - 1 - -1 - 1) / -(-1) + 1 = (n : Int) := by
      rw [show (-(-1) : Int) = 1 by decide, Int.ediv_one]
      omega
    rw [e]; rfl
  · rw [if_neg h]
    have : n = 0 := by omega
    subst this; rfl
theorem fm_congr {α β : Type} {f g : α → Option β} : ∀ {l : List α}, (∀ x ∈ l, f x = g x) → l.filterMap f = l.filterMap g
  | [], _ => rfl
  | x :: l, h => by
    rw [List.filterMap_cons, List.filterMap_cons, h x (by simp), fm_congr fun y hy => h y (by simp [hy])]
theorem rev_pick (xs : Array Value) : ((List.range xs.size).filterMap fun (k : Nat) => xs[((xs.size : Int) - 1 + (k : Int) * (-1)).toNat]?).toArray = xs.toList.reverse.toArray := by
  have e1 : (List.range xs.size).filterMap (fun (k : Nat) => xs[((xs.size : Int) - 1 + (k : Int) * (-1)).toNat]?) = (List.range xs.size).filterMap ((fun j => xs[j]?) ∘ fun k => xs.size - 1 - k) := fm_congr fun k hk => by
    have hk' : k < xs.size := List.mem_range.mp hk
    have e : ((xs.size : Int) - 1 + (k : Int) * (-1)).toNat = xs.size - 1 - k := by omega
    rw [e]; rfl
  rw [e1, ← List.filterMap_map, PySem.W.krv_range, List.filterMap_reverse, PySem.W.krv_all]
theorem getItem_tuple_rev {t sl : Addr} {items : Array Value} {tk : Tok} {Q : Value → Shared → Prop} (ht : IsTup s.heap t items) (hs : s.heap.IsSliceOf sl .none .none (.int (-1) tk))
    (h : Q (.ref s.heap.objs.size) { s with heap := s.heap.push { cls := .type "tuple", data := .seq items.toList.reverse.toArray } }) (hsz : items.size ≤ sizeLine) : wpAny (model prog w) A (getItem (.ref t) (.ref sl)) Q E s := by
  obtain ⟨os, hos, hcs, hds⟩ := id hs
  have hTs : s.TypeIs (.ref sl) "slice" := ⟨os, hos, hcs⟩
  have hfit : sizeOk (.seq items.toList.reverse.toArray) := by
    show items.toList.reverse.toArray.size ≤ sizeLine
    simpa using hsz
  unfold getItem
  try with_reducible refine wpAny_holding ?_
  first | refine wpAny_bind (wpAny_pure ?_) | skip
  refine wpAny_bind (wpAny_sequenceKey ht.typeIs (by decide) ?_)
  refine wpAny_bind (wpAny_callSpecial?_slot (name := Str.ofString "__getitem__") ht.typeIs PyProof.Rows.slot_tuple_getitem (wpAny_call_entry PyProof.Rows.slot_tuple_getitem ht.typeIs entry_tuple_getitem ?_ (args_tuple_getitem _ _)))
  show wpAny _ _ (Builtin.Tuple.tupleItemsOf (.ref t) >>= _) _ _ s
  refine wpAny_bind (tupleItemsOf_ ht ?_)
  refine wpAny_bind (wpAny_typeOf hTs ?_)
  rw [if_pos (by decide)]
  refine wpAny_bind ?_
  · unfold Builtin.Slice.sliceApplied Builtin.Slice.sliceFields
    refine wpAny_bind (wpAny_bind (wpAny_field hos hds (x := .none) rfl (wpAny_bind (wpAny_field hos hds (x := .none) rfl (wpAny_bind (wpAny_field hos hds (x := .int (-1) tk) rfl (wpAny_pure ?_)))))))
    refine wpAny_bind (slicePart_int ?_)
    show wpAny _ _ (if ((-1 : Int) == 0) = true then _ else _) _ _ s
    rw [if_neg (by decide)]
    refine wpAny_bind (slicePart_none (wpAny_bind (slicePart_none (wpAny_bind (wpAny_pure ?_)))))
    show wpAny _ _ (match Builtin.Slice.sliceAdjust none none (-1) (items.size : Int) with | (lo, hi) => pure (lo, (-1 : Int), Builtin.Slice.slicePlaces lo hi (-1))) _ _ s
    rw [(rev_places items.size).1]
    show wpAny _ _ (pure ((items.size : Int) - 1, (-1 : Int), Builtin.Slice.slicePlaces ((items.size : Int) - 1) (-1) (-1))) _ _ s
    rw [(rev_places items.size).2]
    refine wpAny_pure ?_
    have hno : ¬ (((items.size : Int) - 1 == 0 && (-1 : Int) == 1 && items.size == items.size) = true) := by
      intro z
      rw [Bool.and_eq_true, Bool.and_eq_true] at z
      exact absurd z.1.2 (by decide)
    show wpAny _ _ (if ((items.size : Int) - 1 == 0 && (-1 : Int) == 1 && items.size == items.size) = true then _ else _) _ _ s
    rw [if_neg hno, rev_pick]
    first
      | exact wpAny_bind (m := Builtin.Tuple.tupleExact _) (wpAny_newObj_type (wpAny_pure ⟨_, rfl, wpAny_pure h⟩) hfit)
      | exact wpAny_bind (m := Builtin.Tuple.tupleExact _) (wpAny_newObj_type (wpAny_bind (wpAny_pure (wpAny_pure ⟨_, rfl, wpAny_pure h⟩))) hfit)
      | exact wpAny_bind (wpAny_bind (m := Builtin.Tuple.tupleExact _) (wpAny_newObj_type (wpAny_pure (wpAny_pure ⟨_, rfl, wpAny_pure h⟩)) hfit))
      | exact wpAny_bind (wpAny_bind (m := Builtin.Tuple.tupleExact _) (wpAny_newObj_type (wpAny_pure ⟨_, rfl, wpAny_pure h⟩) hfit))
end
section
variable {X : Cx} {a : Expr} {fa : E} {pos p1 p2 p3 : Pos} {k : Nat}
def tRevA (K : PySem.W.Frag) (te : TE) : TE := fun σ H Q => te σ H fun x H1 => ∃ a xs, x = .ref a ∧ ((SqL K H1 a xs ∧ ∀ p, H1 p = none → Q (.ref p) (upd H1 p (.lst xs.reverse))) ∨ (SqT K H1 a xs ∧ ∀ p, H1 p = none → Q (.ref p) (upd H1 p (.tup xs.reverse))))
theorem pe_revA {te : TE} (he : PE X a te) : PE X (.Subscript a (.Slice none none (some (.UnaryOp .USub (.Constant (.int 1) k p1) p2)) p3) pos) (tRevA X.K te) := by
  refine ⟨fun pins s σ H Q I h => ?_⟩
  refine Subscript_ (thn (he.run pins s σ H _ I h) ?_)
  intro v s1 ⟨x, H1, I1, r1, q1⟩
  obtain ⟨c, xs, ex, q⟩ := q1
  subst ex
  cases r1
  have hst : PO X (some (.UnaryOp .USub (.Constant (.int 1) k p1) p2)) (tPart (tUn (rU fun i => .int (-i)) (tC (.int 1)))) := po_some (pe_un un_neg pe_int)
  refine wpAny_Slice (thn (po_none.run pins s1 σ H1 (fun o H2 => o = none ∧ H2 = H1) I1 ⟨rfl, rfl⟩) ?_)
  intro vl s2 ⟨l, H2, I2, pl, el, e2⟩
  subst el e2
  refine thn (po_none.run pins s2 σ H2 (fun o H3 => o = none ∧ H3 = H2) I2 ⟨rfl, rfl⟩) ?_
  intro vu s3 ⟨u, H3, I3, pu, eu, e3⟩
  subst eu e3
  refine thn (hst.run pins s3 σ H3 (fun o H4 => o = some (-1) ∧ H4 = H3) I3 ⟨1, rfl, -1, rfl, rfl, rfl⟩) ?_
  intro vs s4 ⟨o, H4, I4, ps, eo, e4⟩
  subst eo e4
  have I5 : Inv X pins σ H4 { s4 with heap := s4.heap.push { cls := .type "slice", data := .fields #[vl, vu, vs] } } := I4.kept (t' := s4.toks) fun b ob q => Heap.get?_push_of_some _ q
  rcases q with ⟨hx, q⟩ | ⟨hx, q⟩
  · obtain ⟨its, r, ht, hz⟩ := I5.list hx
    have hlen := r.length
    show wpAny (model X.prog X.w) X.A (subscriptTail a (.Slice none none (some (.UnaryOp .USub (.Constant (.int 1) k p1) p2)) p3) (.ref c) (.ref s4.heap.objs.size)) (EP X pins σ Q) X.xe { s4 with heap := s4.heap.push { cls := .type "slice", data := .fields #[vl, vu, vs] } }
    refine tail_any (ops := [.ref c, .ref s4.heap.objs.size]) ht.isList.typeIs (PySem.slot_list_getitem.lookup) ?_ (by with_unfolding_all rfl)
    refine wpAny_getItem_list_slice ht.isList (Heap.IsSliceOf.new _ vl vu vs) pl pu ps (by decide) ?_ (by rw [List.size_toArray]; omega)
    rw [PySem.W.krv_pick]
    exact ⟨.ref _, _, I5.laid (t' := s4.toks) (o := .lst xs.reverse) (fun b ob q => Heap.get?_push_of_some _ q) (Nat.le_refl _) ⟨by rw [List.length_reverse]; exact hz, _, 0, r.reverse, Heap.get?_push_size _ rfl⟩, rfl, q _ (I5.hok.fresh (Nat.le_refl _))⟩
  · obtain ⟨its, r, ht, hz⟩ := I5.tuple hx
    have hlen := r.length
    cases pl
    cases pu
    cases ps with
    | int i t =>
      show wpAny (model X.prog X.w) X.A (subscriptTail a (.Slice none none (some (.UnaryOp .USub (.Constant (.int 1) k p1) p2)) p3) (.ref c) (.ref s4.heap.objs.size)) (EP X pins σ Q) X.xe { s4 with heap := s4.heap.push { cls := .type "slice", data := .fields #[.none, .none, .int (-1) t] } }
      refine tail_any (ops := [.ref c, .ref s4.heap.objs.size]) ht.typeIs PyProof.Rows.slot_tuple_getitem.lookup ?_ (by with_unfolding_all rfl)
      refine getItem_tuple_rev ht (Heap.IsSliceOf.new _ _ _ _) ?_ (by rw [List.size_toArray]; omega)
      exact ⟨.ref _, _, I5.laid (t' := s4.toks) (o := .tup xs.reverse) (fun b ob q => Heap.get?_push_of_some _ q) (Nat.le_refl _) ⟨by rw [List.length_reverse]; exact hz, _, r.reverse, IsTup.new _ _⟩, rfl, q _ (I5.hok.fresh (Nat.le_refl _))⟩
theorem d_rev (he : PE X a (TEv X.K fa)) : PE X (.Subscript a (.Slice none none (some (.UnaryOp .USub (.Constant (.int 1) k p1) p2)) p3) pos) (TEv X.K (eUn gRev fa)) :=
  (pe_revA he).imp fun σ H Q h => tev_un (r := fun x H1 Q => ∃ a xs, x = .ref a ∧ ((SqL X.K H1 a xs ∧ ∀ p, H1 p = none → Q (.ref p) (upd H1 p (.lst xs.reverse))) ∨ (SqT X.K H1 a xs ∧ ∀ p, H1 p = none → Q (.ref p) (upd H1 p (.tup xs.reverse))))) (fun S H x d z Q sh rx eg q => by
    unfold gRev at eg
    split at eg
    · cases eg
      cases rx with
      | tup h r => exact ⟨_, _, rfl, .inr ⟨sh.sqT h, fun p hp => q _ _ _ (Grow.add sh hp) (.tup (.inl (.inl Sx.add_at)) (r.rev.mono (Grow.add sh hp).le))⟩⟩
    · cases eg
      cases rx with
      | lst h r => exact ⟨_, _, rfl, .inl ⟨.inl (.inl (sh _ _ h)), fun p hp => q _ _ _ (Grow.add sh hp) (.lst Sx.add_at (r.rev.mono (Grow.add sh hp).le))⟩⟩
    · cases eg
      cases rx with
      | rdl h r => exact ⟨_, _, rfl, .inl ⟨sh.sqL h, fun p hp => q _ _ _ (Grow.add sh hp) (.lst Sx.add_at (r.rev.mono (Grow.add sh hp).le))⟩⟩
    · cases eg) h
end
end WS
namespace WS
open PySem PySem.Spec PyProof.Rows L2
mutual
inductive Rq (h : Heap) : Value → PyData → Prop
  | none : Rq h .none .none
  | bool (b) : Rq h (.bool b) (.bool b)
  | int (i t) : Rq h (.int i t) (.int i)
  | str (x t) : Rq h (.str x t) (.str x)
  | list {a o vs n xs} : h.get? a = some o → o.cls = .type "list" → o.data = .seq vs n → RqL h vs.toList xs → Rq h (.ref a) (.list xs)
  | tuple {a o vs n xs} : h.get? a = some o → o.cls = .type "tuple" → o.data = .seq vs n → RqL h vs.toList xs → Rq h (.ref a) (.tuple xs)
  | dict {a o es n kvs} : h.get? a = some o → o.cls = .type "dict" → o.data = .dict es n → a ≠ sysModules → RqL h (es.toList.map (·.key)) (kvs.map (·.1)) → RqL h (es.toList.map (·.val)) (kvs.map (·.2)) → Rq h (.ref a) (.dict kvs)
inductive RqL (h : Heap) : List Value → List PyData → Prop
  | nil : RqL h [] []
  | cons {v vs d ds} : Rq h v d → RqL h vs ds → RqL h (v :: vs) (d :: ds)
end
mutual
theorem Rq.reads {h : Heap} : ∀ {v : Value} {d : PyData}, Rq h v d → ∃ as, Reads h v d as
  | _, _, .none => ⟨_, .none⟩
  | _, _, .bool b => ⟨_, .bool b⟩
  | _, _, .int i t => ⟨_, .int i t⟩
  | _, _, .str x t => ⟨_, .str x t⟩
  | _, _, .list h1 h2 h3 h4 => let ⟨_, r⟩ := RqL.reads h4; ⟨_, .list h1 h2 h3 r⟩
  | _, _, .tuple h1 h2 h3 h4 => let ⟨_, r⟩ := RqL.reads h4; ⟨_, .tuple h1 h2 h3 r⟩
  | _, _, .dict h1 h2 h3 _ h4 h5 => let ⟨_, r⟩ := RqL.reads h4; let ⟨_, q⟩ := RqL.reads h5; ⟨_, .dict h1 h2 h3 r q⟩
theorem RqL.reads {h : Heap} : ∀ {v : List Value} {d : List PyData}, RqL h v d → ∃ as, ReadsAll h v d as
  | _, _, .nil => ⟨_, .nil⟩
  | _, _, .cons h t => let ⟨_, r⟩ := Rq.reads h; let ⟨_, q⟩ := RqL.reads t; ⟨_, .cons r q⟩
end
section
variable {prog : Program} {w : World} {h₀ : Heap}
mutual
theorem reprK_rq : ∀ {v : Value} {d : PyData}, Rq h₀ v d → d.showable = true → d.shown.length ≤ sizeLine → ∃ bs, ReadAtMost h₀ d.depth bs ∧ ReprK prog w bs h₀ d.depth v d.shown
  | _, _, .none, _, _ => ⟨[], (fun _ h => nomatch h), by simp only [PyData.shown]; exact .of_is ReprIs.none _ _ _⟩
  | _, _, .bool b, _, _ => ⟨[], (fun _ h => nomatch h), by simp only [PyData.shown]; exact .of_is (ReprIs.bool b) _ _ _⟩
  | _, _, .int i t, hs, _ => ⟨[], (fun _ h => nomatch h), by simp only [PyData.shown]; exact .of_is (ReprIs.int t (by simpa [PyData.showable] using hs)) _ _ _⟩
  | _, _, .str x t, _, hz => ⟨[], (fun _ h => nomatch h), by simp only [PyData.shown]; exact .of_is (ReprIs.str x t (by simpa only [PyData.shown] using hz)) _ _ _⟩
  | _, _, .list (a := a) (vs := vs) (xs := xs) h1 h2 h3 h4, hs, hz => by
    have hz' : (listText (PyData.shownAll xs)).length ≤ sizeLine := by simpa only [PyData.shown] using hz
    obtain ⟨bs, hb, hk⟩ := reprAllK_rq h4 (by simpa [PyData.showable] using hs) (fun t ht => Nat.le_trans (listText_mem_le ht) hz')
    obtain ⟨_, r4⟩ := RqL.reads h4
    have r : Reads h₀ (.ref a) (.list xs) _ := .list h1 h2 h3 r4
    have hna : a ∉ bs := not_mem_of_deeper r (by simp only [PyData.depth]; omega) hb
    refine ⟨a :: bs, ReadAtMost.cons r (by simp only [PyData.depth]; omega) hb, ?_⟩
    simp only [PyData.depth, PyData.shown]
    obtain ⟨l⟩ := vs
    cases l with
    | nil =>
      have h4' : RqL h₀ [] xs := h4
      cases h4'
      simp only [PyData.shownAll, listText_nil]
      exact ReprK.listEmpty h1 h2 h3
    | cons x l => exact ReprK.list h1 h2 h3 hna (by simpa using hk.length_eq) (fun i y e => hk.item i y (by simpa using e))
  | _, _, .tuple (a := a) (xs := xs) h1 h2 h3 h4, hs, hz => by
    have hz' : (tupleText (PyData.shownAll xs)).length ≤ sizeLine := by simpa only [PyData.shown] using hz
    obtain ⟨bs, hb, hk⟩ := reprAllK_rq h4 (by simpa [PyData.showable] using hs) (fun t ht => Nat.le_trans (tupleText_mem_le ht) hz')
    obtain ⟨_, r4⟩ := RqL.reads h4
    have r : Reads h₀ (.ref a) (.tuple xs) _ := .tuple h1 h2 h3 r4
    have hna : a ∉ bs := not_mem_of_deeper r (by simp only [PyData.depth]; omega) hb
    refine ⟨a :: bs, ReadAtMost.cons r (by simp only [PyData.depth]; omega) hb, ?_⟩
    simp only [PyData.depth, PyData.shown]
    exact ReprK.tuple h1 h2 h3 hna hk
  | _, _, .dict (a := a) (es := es) (kvs := kvs) h1 h2 h3 hne h4 h5, hs, hz => by
    have hz' : (dictText (PyData.shownKv kvs)).length ≤ sizeLine := by simpa only [PyData.shown] using hz
    obtain ⟨hs1, hs2⟩ := PyData.showableKv_split kvs (by simpa [PyData.showable] using hs)
    obtain ⟨b1, hb1, k1⟩ := reprAllK_rq h4 hs1 (fun t ht => let ⟨p, hp, hl⟩ := PyData.shownKv_key_le kvs t ht; Nat.le_trans hl (Nat.le_trans (dictText_mem_le hp) hz'))
    obtain ⟨b2, hb2, k2⟩ := reprAllK_rq h5 hs2 (fun t ht => let ⟨p, hp, hl⟩ := PyData.shownKv_val_le kvs t ht; Nat.le_trans hl (Nat.le_trans (dictText_mem_le hp) hz'))
    obtain ⟨_, r4⟩ := RqL.reads h4
    obtain ⟨_, r5⟩ := RqL.reads h5
    have r : Reads h₀ (.ref a) (.dict kvs) _ := .dict h1 h2 h3 r4 r5
    have hb : ReadAtMost h₀ (PyData.depthKv kvs) (b1 ++ b2) := (hb1.mono (PyData.depthAll_keys_le kvs)).append (hb2.mono (PyData.depthAll_vals_le kvs))
    have hna : a ∉ b1 ++ b2 := not_mem_of_deeper r (by simp only [PyData.depth]; omega) hb
    have hsys : (a == sysModules) = false := beq_eq_false_iff_ne.mpr hne
    refine ⟨a :: (b1 ++ b2), ReadAtMost.cons r (by simp only [PyData.depth]; omega) hb, ?_⟩
    simp only [PyData.depth, PyData.shown, PyData.shownKv_eq]
    exact ReprK.dict h1 h2 h3 hsys hna (ReprEntriesK.of_two es.toList _ _
      (k1.more_le (fun b hb => List.mem_append_left _ hb) (PyData.depthAll_keys_le kvs)) (k2.more_le (fun b hb => List.mem_append_right _ hb) (PyData.depthAll_vals_le kvs)))
theorem reprAllK_rq : ∀ {vs : List Value} {ds : List PyData}, RqL h₀ vs ds → PyData.showableAll ds = true → (∀ t ∈ PyData.shownAll ds, t.length ≤ sizeLine) →
    ∃ bs, ReadAtMost h₀ (PyData.depthAll ds) bs ∧ ReprAllK prog w bs h₀ (PyData.depthAll ds) vs (PyData.shownAll ds)
  | _, _, .nil, _, _ => ⟨[], (fun _ h => nomatch h), by simp only [PyData.shownAll]; exact .nil⟩
  | _, _, .cons (d := d) (ds := ds) r rs, hs, hz => by
    have hs' : d.showable = true ∧ PyData.showableAll ds = true := by simpa [PyData.showableAll] using hs
    obtain ⟨b1, hb1, k1⟩ := reprK_rq r hs'.1 (hz _ (by simp only [PyData.shownAll]; exact List.mem_cons_self ..))
    obtain ⟨b2, hb2, k2⟩ := reprAllK_rq rs hs'.2 (fun t ht => hz t (by simp only [PyData.shownAll]; exact List.mem_cons_of_mem _ ht))
    refine ⟨b1 ++ b2, ?_, ?_⟩
    · intro b hm
      simp only [PyData.depthAll]
      rcases List.mem_append.mp hm with hm | hm
      · obtain ⟨d', as', r', hd'⟩ := hb1 b hm
        exact ⟨d', as', r', Nat.le_trans hd' (Nat.le_max_left _ _)⟩
      · obtain ⟨d', as', r', hd'⟩ := hb2 b hm
        exact ⟨d', as', r', Nat.le_trans hd' (Nat.le_max_right _ _)⟩
    · simp only [PyData.depthAll, PyData.shownAll]
      exact .cons ((k1.more fun b hb => List.mem_append_left _ hb).level_le (Nat.le_max_left _ _)) (k2.more_le (fun b hb => List.mem_append_right _ hb) (Nat.le_max_right _ _))
end
variable {a : Addr} {d : PyData}
theorem shows_rq (r : Rq h₀ (.ref a) d) (hs : d.showable = true) (hsz : d.shown.length ≤ sizeLine) : ∃ T idr, ShowsBy prog w h₀ a d T idr := by
  cases r with
  | list h1 h2 h3 h4 =>
    rename_i o vs n xs
    have hz' : (listText (PyData.shownAll xs)).length ≤ sizeLine := by simpa only [PyData.shown] using hsz
    obtain ⟨bs, hb, hk⟩ := reprAllK_rq (prog := prog) (w := w) h4 (by simpa [PyData.showable] using hs) (fun t ht => Nat.le_trans (listText_mem_le ht) hz')
    obtain ⟨_, r4⟩ := RqL.reads h4
    have hna : a ∉ bs := not_mem_of_deeper (.list h1 h2 h3 r4) (by simp only [PyData.depth]; omega) hb
    refine ⟨"list", "list.__repr__", F.slot_list_repr.toG, F.slot_list_str, F.slot_list_format, fun s hk0 => ⟨o, hk0 _ _ h1, h2⟩, fun A E s Q hg hu hk0 hQ => ?_⟩
    simp only [PyData.depth] at hu
    simp only [PyData.shown] at hQ
    obtain ⟨l⟩ := vs
    cases l with
    | nil =>
      have h4' : RqL h₀ [] xs := h4
      cases h4'
      simp only [PyData.shownAll, listText_nil] at hQ
      exact call_list_repr_empty ⟨o, hk0 _ _ h1, h2⟩ (hk0 _ _ h1) h3 (hQ s.heap _ _ fun _ _ e => e)
    | cons x l =>
      exact call_list_reprK h1 h2 h3 hna (by simpa using hk.length_eq) (fun i y e => hk.item i y (by simpa using e)) hg (fun b _ => Clear.nil b) hu hk0 hQ hz'
  | tuple h1 h2 h3 h4 =>
    rename_i o vs n xs
    have hz' : (tupleText (PyData.shownAll xs)).length ≤ sizeLine := by simpa only [PyData.shown] using hsz
    obtain ⟨bs, hb, hk⟩ := reprAllK_rq (prog := prog) (w := w) h4 (by simpa [PyData.showable] using hs) (fun t ht => Nat.le_trans (tupleText_mem_le ht) hz')
    obtain ⟨_, r4⟩ := RqL.reads h4
    have hna : a ∉ bs := not_mem_of_deeper (.tuple h1 h2 h3 r4) (by simp only [PyData.depth]; omega) hb
    refine ⟨"tuple", "tuple.__repr__", F.slot_tuple_repr, F.slot_tuple_str, F.slot_tuple_format, fun s hk0 => ⟨o, hk0 _ _ h1, h2⟩, fun A E s Q hg hu hk0 hQ => ?_⟩
    simp only [PyData.depth] at hu
    simp only [PyData.shown] at hQ
    exact call_tuple_reprK h1 h2 h3 hna hk hg (fun b _ => Clear.nil b) hu hk0 hQ hz'
  | dict h1 h2 h3 hne h4 h5 =>
    rename_i o es n kvs
    have hz' : (dictText (PyData.shownKv kvs)).length ≤ sizeLine := by simpa only [PyData.shown] using hsz
    obtain ⟨hs1, hs2⟩ := PyData.showableKv_split kvs (by simpa [PyData.showable] using hs)
    obtain ⟨b1, hb1, k1⟩ := reprAllK_rq (prog := prog) (w := w) h4 hs1 (fun t ht => let ⟨p, hp, hl⟩ := PyData.shownKv_key_le kvs t ht; Nat.le_trans hl (Nat.le_trans (dictText_mem_le hp) hz'))
    obtain ⟨b2, hb2, k2⟩ := reprAllK_rq (prog := prog) (w := w) h5 hs2 (fun t ht => let ⟨p, hp, hl⟩ := PyData.shownKv_val_le kvs t ht; Nat.le_trans hl (Nat.le_trans (dictText_mem_le hp) hz'))
    obtain ⟨_, r4⟩ := RqL.reads h4
    obtain ⟨_, r5⟩ := RqL.reads h5
    have hb : ReadAtMost h₀ (PyData.depthKv kvs) (b1 ++ b2) := (hb1.mono (PyData.depthAll_keys_le kvs)).append (hb2.mono (PyData.depthAll_vals_le kvs))
    have hna : a ∉ b1 ++ b2 := not_mem_of_deeper (.dict h1 h2 h3 r4 r5) (by simp only [PyData.depth]; omega) hb
    have hsys : (a == sysModules) = false := beq_eq_false_iff_ne.mpr hne
    refine ⟨"dict", "dict.__repr__", F.slot_dict_repr, F.slot_dict_str, F.slot_dict_format, fun s hk0 => ⟨o, hk0 _ _ h1, h2⟩, fun A E s Q hg hu hk0 hQ => ?_⟩
    simp only [PyData.depth] at hu
    simp only [PyData.shown, PyData.shownKv_eq] at hQ
    exact call_dict_reprK h1 h2 h3 hsys hna (ReprEntriesK.of_two es.toList _ _
      (k1.more_le (fun b hb => List.mem_append_left _ hb) (PyData.depthAll_keys_le kvs)) (k2.more_le (fun b hb => List.mem_append_right _ hb) (PyData.depthAll_vals_le kvs))) hg (fun b _ => Clear.nil b) hu hk0 hQ (by rw [← PyData.shownKv_eq]; exact hz')
variable {A : Around} {E : Value → Shared → Prop} {s : Shared} {Q : Value → Shared → Prop}
theorem repr_rq (r : Rq h₀ (.ref a) d) (hs : d.showable = true) (hg : A.guards = some []) (hu : A.units + (d.depth + 1) < cLine) (hk0 : ∀ b o, h₀.get? b = some o → s.heap.get? b = some o)
    (hQ : ∀ h' u tk, (∀ b o, s.heap.get? b = some o → h'.get? b = some o) → Q (.str d.shown u) { s with heap := h', toks := tk })
    (hsz : d.shown.length ≤ sizeLine) : wpAny (model prog w) A (call (.builtin "repr") [.ref a]) Q E s := by
  obtain ⟨T, idr, S⟩ := shows_rq (prog := prog) (w := w) r hs hsz
  exact call_repr_slot (by omega) (S.typeIs s hk0) S.slotRepr (S.call A.in1 E s _ hg (by show A.units + 1 + d.depth < cLine; omega) hk0 fun h' u tk hk => ⟨_, _, rfl, hQ h' u tk hk⟩)
end
end WS
namespace WS
open PySem PySem.Spec PyProof.Rows L2
def gLen : List D → Option D
  | [.str x] => if x.length ≤ sizeLine then some (.int x.length) else none
  | [.tup xs] => some (.int xs.length)
  | [.lst xs] => some (.int xs.length)
  | [.rdl xs] => some (.int xs.length)
  | _ => none
def gTuple : List D → Option D
  | [.lst xs] => some (.tup xs)
  | [.rdl xs] => some (.tup xs)
  | [.tup xs] => some (.tup xs)
  | _ => none
def gList : List D → Option D
  | [.lst xs] => some (.lst xs)
  | [.rdl xs] => some (.lst xs)
  | [.tup xs] => some (.lst xs)
  | _ => none
def gInt : List D → Option D
  | [.int i] => some (.int i)
  | [.bl k] => some (.int (if k then 1 else 0))
  | _ => none
def gMin2 : List D → Option D
  | [.int i, .int j] => some (.int (if j < i then j else i))
  | _ => none
def gMax2 : List D → Option D
  | [.int i, .int j] => some (.int (if j > i then j else i))
  | _ => none
def intsOf : List D → Option (List Int)
  | [] => some []
  | .int i :: r => (intsOf r).map (i :: ·)
  | _ => none
def blsOf : List D → Option (List Bool)
  | [] => some []
  | .bl i :: r => (blsOf r).map (i :: ·)
  | _ => none
def gAll : List D → Option D
  | [.lst xs] => (blsOf xs).map fun bs => .bl (bs.all id)
  | _ => none
def tyn : D → Option String
  | .non => some "NoneType"
  | .bl _ => some "bool"
  | .int _ => some "int"
  | .str _ => some "str"
  | .tup _ => some "tuple"
  | .lst _ => some "list"
  | .dct _ _ => some "dict"
  | _ => none
def gIsI : List D → Option D
  | [d, .ty T] => (tyn d).bind fun a => (kitB a T).map .bl
  | _ => none
section
variable {K : PySem.W.Frag} {S : Sx}
theorem intsOf_vs : ∀ {vs : List V} {ds : List D} {ns : List Int}, RpL K S vs ds → intsOf ds = some ns → vs = ns.map V.int
  | _, _, _, .nil, e => by cases e; rfl
  | _, d :: ds, ns, .cons h r, e => by
    cases d with
    | int i =>
      unfold intsOf at e
      cases q : intsOf ds with
      | none => rw [q] at e; cases e
      | some m =>
        rw [q] at e
        cases e
        cases h
        rw [intsOf_vs r q]; rfl
    | _ => cases e
theorem blsOf_vs : ∀ {vs : List V} {ds : List D} {ns : List Bool}, RpL K S vs ds → blsOf ds = some ns → vs = ns.map V.bl
  | _, _, _, .nil, e => by cases e; rfl
  | _, d :: ds, ns, .cons h r, e => by
    cases d with
    | bl i =>
      unfold blsOf at e
      cases q : blsOf ds with
      | none => rw [q] at e; cases e
      | some m =>
        rw [q] at e
        cases e
        cases h
        rw [blsOf_vs r q]; rfl
    | _ => cases e
theorem one_of {vs : List V} {d : D} (r : RpL K S vs [d]) : ∃ v, vs = [v] ∧ Rp K S v d := by
  cases r with
  | cons h t => cases t; exact ⟨_, rfl, h⟩
theorem two_of {vs : List V} {d e : D} (r : RpL K S vs [d, e]) : ∃ v u, vs = [v, u] ∧ Rp K S v d ∧ Rp K S u e := by
  cases r with
  | cons h t =>
    obtain ⟨u, rfl, q⟩ := one_of t
    exact ⟨_, _, rfl, h, q⟩
end
section
variable {X : Cx} {e : Expr} {fa : E} {pos : Pos}
theorem d_type {x : Str} {n : String} (hg : Gl X x) (hm : X.mg x = none) (hv : bootBuiltins x = some (.type n)) (hn : x ≠ "__name__" := by decide) (hd : (x == ("__debug__" : Str)) = false := by decide) : PE X (.Name x pos) (TEv X.K (eC (.ty n))) :=
  (pe_bltn (v := .ty n) hg hm hv rfl hn hd).imp fun _ _ _ h => tev_c (fun _ => .ty n) h
theorem x_len : CallX X (.builtin "len") gLen := by
  refine ⟨_, call_len, fun S H xs ds z Q sh r eg q => ?_⟩
  unfold gLen at eg
  split at eg
  · split at eg
    case isFalse => cases eg
    rename_i hl
    cases eg
    obtain ⟨v, rfl, rv⟩ := one_of r
    cases rv
    exact ⟨_, _, rfl, ⟨hl, rfl⟩, q _ S H (Grow.refl sh) (.int _)⟩
  · cases eg
    obtain ⟨v, rfl, rv⟩ := one_of r
    cases rv with
    | tup h r => exact ⟨_, _, rfl, .inr ⟨_, sh.sqT h, rfl⟩, q _ S H (Grow.refl sh) (by rw [r.length]; exact .int _)⟩
  · cases eg
    obtain ⟨v, rfl, rv⟩ := one_of r
    cases rv with
    | lst h r => exact ⟨_, _, rfl, .inl ⟨_, .inl (.inl (sh _ _ h)), rfl⟩, q _ S H (Grow.refl sh) (by rw [r.length]; exact .int _)⟩
  · cases eg
    obtain ⟨v, rfl, rv⟩ := one_of r
    cases rv with
    | rdl h r => exact ⟨_, _, rfl, .inl ⟨_, sh.sqL h, rfl⟩, q _ S H (Grow.refl sh) (by rw [r.length]; exact .int _)⟩
  · cases eg
theorem x_tuple : CallX X (.type "tuple") gTuple := by
  refine ⟨_, call_tuple_of, fun S H xs ds z Q sh r eg q => ?_⟩
  unfold gTuple at eg
  split at eg
  · cases eg
    obtain ⟨v, rfl, rv⟩ := one_of r
    cases rv with
    | lst h r => exact ⟨_, _, rfl, .inl ⟨.inl (.inl (sh _ _ h)), fun l hl => q _ _ _ (Grow.add sh hl) (.tup (.inl (.inl Sx.add_at)) (r.mono (Grow.add sh hl).le))⟩⟩
  · cases eg
    obtain ⟨v, rfl, rv⟩ := one_of r
    cases rv with
    | rdl h r => exact ⟨_, _, rfl, .inl ⟨sh.sqL h, fun l hl => q _ _ _ (Grow.add sh hl) (.tup (.inl (.inl Sx.add_at)) (r.mono (Grow.add sh hl).le))⟩⟩
  · cases eg
    obtain ⟨v, rfl, rv⟩ := one_of r
    cases rv with
    | tup h r => exact ⟨_, _, rfl, .inr ⟨sh.sqT h, q _ S H (Grow.refl sh) (.tup h r)⟩⟩
  · cases eg
theorem x_list : CallX X (.type "list") gList := by
  refine ⟨_, call_list_of, fun S H xs ds z Q sh r eg q => ?_⟩
  unfold gList at eg
  split at eg
  · cases eg
    obtain ⟨v, rfl, rv⟩ := one_of r
    cases rv with
    | lst h r => exact ⟨_, _, rfl, .inl (.inl (.inl (sh _ _ h))), fun l hl => q _ _ _ (Grow.add sh hl) (.lst Sx.add_at (r.mono (Grow.add sh hl).le))⟩
  · cases eg
    obtain ⟨v, rfl, rv⟩ := one_of r
    cases rv with
    | rdl h r => exact ⟨_, _, rfl, .inl (sh.sqL h), fun l hl => q _ _ _ (Grow.add sh hl) (.lst Sx.add_at (r.mono (Grow.add sh hl).le))⟩
  · cases eg
    obtain ⟨v, rfl, rv⟩ := one_of r
    cases rv with
    | tup h r => exact ⟨_, _, rfl, .inr (sh.sqT h), fun l hl => q _ _ _ (Grow.add sh hl) (.lst Sx.add_at (r.mono (Grow.add sh hl).le))⟩
  · cases eg
theorem x_int : CallX X (.type "int") gInt := by
  refine ⟨_, call_int1, fun S H xs ds z Q sh r eg q => ?_⟩
  unfold gInt at eg
  split at eg
  · cases eg
    obtain ⟨v, rfl, rv⟩ := one_of r
    cases rv
    exact .inl ⟨_, rfl, q _ S H (Grow.refl sh) (.int _)⟩
  · cases eg
    obtain ⟨v, rfl, rv⟩ := one_of r
    cases rv
    exact .inr ⟨_, rfl, q _ S H (Grow.refl sh) (.int _)⟩
  · cases eg
theorem x_min2 (hc : X.calm = true) : CallX X (.builtin "min") gMin2 := by
  refine ⟨_, call_min2 hc, fun S H xs ds z Q sh r eg q => ?_⟩
  unfold gMin2 at eg
  split at eg
  case h_2 => cases eg
  cases eg
  obtain ⟨v, u, rfl, rv, ru⟩ := two_of r
  cases rv
  cases ru
  exact ⟨_, _, rfl, q _ S H (Grow.refl sh) (.int _)⟩
theorem x_all (hc : X.calm = true) : CallX X (.builtin "all") gAll := by
  refine ⟨_, cr_all hc, fun S H xs ds z Q sh r eg q => ?_⟩
  unfold gAll at eg
  split at eg
  case h_2 => cases eg
  rename_i l
  cases h : blsOf l with
  | none => rw [h] at eg; cases eg
  | some ns =>
    rw [h] at eg
    cases eg
    obtain ⟨v, rfl, rv⟩ := one_of r
    cases rv with
    | lst h1 r => exact ⟨_, ns, rfl, by rw [← blsOf_vs r h]; exact .inl (.inl (sh _ _ h1)), q _ S H (Grow.refl sh) (.bl _)⟩
theorem tyx {K : PySem.W.Frag} {S : Sx} {H : Hp} (sh : Sub S.hp H) {v : V} {d : D} {a : String} (r : Rp K S v d) (h : tyn d = some a) : TyX K H v (.type a) := by
  cases r with
  | non => cases h; exact .base .non
  | bl b => cases h; exact .base (.bl b)
  | int i => cases h; exact .base (.int i)
  | str x => cases h; exact .base (.str x)
  | tup hs _ =>
    cases h
    rcases sh.sqT hs with (q | ⟨o, q⟩) | ⟨o, its, n, h1, h2, _⟩
    · exact .base (.tup q)
    · exact .fTuple q
    · exact .kTuple h1 h2
  | lst hs _ => cases h; exact .base (.lst (sh _ _ hs))
  | rdl hs _ => cases h
  | dct hs _ _ _ =>
    cases h
    rcases sh.rd hs with q | ⟨o, q⟩
    · exact .base (.dK q)
    · exact .fDict q
  | ins _ _ _ _ _ _ => cases h
  | exc _ _ _ _ _ _ _ => cases h
  | exc0 _ _ _ => cases h
  | ty n => cases h
  | obj a => cases h
  | fn _ => cases h
  | loc _ => cases h
  | deck _ => cases h
theorem x_isi : CallX X (.builtin "isinstance") gIsI := by
  refine ⟨_, call_isi, fun S H xs ds z Q sh r eg q => ?_⟩
  unfold gIsI at eg
  split at eg
  case h_2 => cases eg
  rename_i d T
  cases h : tyn d with
  | none => rw [h] at eg; cases eg
  | some a =>
    rw [h] at eg
    simp only [Option.bind_some] at eg
    cases hk : kitB a T with
    | none => rw [hk] at eg; cases eg
    | some b =>
      rw [hk] at eg
      cases eg
      obtain ⟨v, u, rfl, rv, ru⟩ := two_of r
      cases ru
      exact ⟨_, _, .type a, .type T, b, rfl, .ty T, tyx sh rv h, kit_ty hk, q _ S H (Grow.refl sh) (.bl _)⟩
end
def keyP : Key → PyData
  | .inl i => .int i
  | .inr x => .str x
mutual
def toR : D → Option PyData
  | .non => some .none
  | .bl b => some (.bool b)
  | .int i => some (.int i)
  | .str x => some (.str x)
  | .tup xs => (toRs xs).map .tuple
  | .lst xs => (toRs xs).map .list
  | .dct ks vs => if ks.length = vs.length then (toRs vs).map fun ps => .dict ((ks.map keyP).zip ps) else none
  | _ => none
def toRs : List D → Option (List PyData)
  | [] => some []
  | x :: r => (toR x).bind fun p => (toRs r).map fun q => p :: q
end
theorem toRs_len : ∀ {ds : List D} {ps : List PyData}, toRs ds = some ps → ps.length = ds.length
  | [], ps, e => by unfold toRs at e; cases e; rfl
  | x :: r, ps, e => by
    unfold toRs at e
    cases q : toR x with
    | none => rw [q] at e; cases e
    | some a =>
      cases q2 : toRs r with
      | none => rw [q, q2] at e; cases e
      | some b =>
        rw [q, q2] at e
        cases e
        simp [toRs_len q2]
def gRepr : List D → Option D
  | [d] => (toR d).bind fun p => if p.showable = true ∧ p.depth ≤ 60 ∧ p.shown.length ≤ sizeLine then some (.str p.shown) else none
  | _ => none
section
variable {X : Cx} {pins : List (Addr × Obj)} {σ : L2.St} {H : Hp} {s : Shared} {S : Sx}
theorem keys_rq {h : Heap} {P : Program} {w : World} : ∀ {es : List DictEntry} {vs : List (Key × Value)} {ps : List PyData}, Pairs (mixKind P w) es vs → ps.length = vs.length → RqL h (es.map (·.key)) ((((vs.map (·.1)).map keyP).zip ps).map (·.1))
  | _, _, [], .nil, _ => .nil
  | e :: es, kv :: vs, p :: ps, .cons h1 h2 t, hl => by
    refine .cons ?_ (keys_rq t (by simpa using hl))
    show Rq h e.key (keyP kv.1)
    rcases keyIs_shape h1 with ⟨i, tk, a, b⟩ | ⟨x, tk, a, b⟩
    · rw [a, b]; exact .int i tk
    · rw [a, b]; exact .str x tk
  | _ :: _, _ :: _, [], .cons _ _ _, hl => by simp at hl
  | [], [], p :: ps, .nil, hl => by simp at hl
theorem vals_of_pairs {P : Program} {w : World} : ∀ {es : List DictEntry} {vs : List (Key × Value)}, Pairs (mixKind P w) es vs → es.map (·.val) = vs.map (·.2)
  | _, _, .nil => rfl
  | _, _, .cons _ h t => by simp only [List.map_cons, h, vals_of_pairs t]
theorem zip_snd {α β : Type} : ∀ {as : List α} {bs : List β}, bs.length ≤ as.length → (as.zip bs).map (·.2) = bs
  | _, [], _ => by simp
  | a :: as, b :: bs, h => by simp only [List.zip_cons_cons, List.map_cons]; rw [zip_snd (by simpa using h)]
theorem kv_vals : ∀ {kvs : List (Key × V)} {vs : List (Key × Value)}, KV kvs vs → Vals (kvs.map (·.2)) (vs.map (·.2)) ∧ kvs.map (·.1) = vs.map (·.1)
  | _, _, .nil => ⟨.nil, rfl⟩
  | _, _, .cons h t => ⟨.cons h.2 (kv_vals t).1, by simp only [List.map_cons, h.1, (kv_vals t).2]⟩
mutual
theorem toR_reads (I : Inv X pins σ H s) (sh : Sub S.hp H) : ∀ {v : V} {d : D} {u : Value} {p : PyData}, Rp X.K S v d → RelV v u → toR d = some p → Rq s.heap u p
  | _, _, _, _, .non, r, e => by unfold toR at e; cases e; cases r; exact .none
  | _, _, _, _, .bl b, r, e => by unfold toR at e; cases e; cases r; exact .bool b
  | _, _, _, _, .int i, r, e => by unfold toR at e; cases e; obtain ⟨t, rfl⟩ := r; exact .int i t
  | _, _, _, _, .str x, r, e => by unfold toR at e; cases e; obtain ⟨t, rfl⟩ := r; exact .str x t
  | _, .tup ds, _, p, .tup h rr, r, e => by
    unfold toR at e
    cases q : toRs ds with
    | none => rw [q] at e; cases e
    | some ps =>
      rw [q] at e
      cases e
      cases r
      obtain ⟨its, rv, ⟨o, ho, hc, n, hd⟩, _⟩ := I.tuple (sh.sqT h)
      exact .tuple ho hc hd (toRs_reads I sh rr rv q)
  | _, .lst ds, _, p, .lst h rr, r, e => by
    unfold toR at e
    cases q : toRs ds with
    | none => rw [q] at e; cases e
    | some ps =>
      rw [q] at e
      cases e
      cases r
      obtain ⟨its, rv, ⟨o, n, ho, hc, _, hd⟩, _⟩ := I.list (.inl (.inl (sh _ _ h)))
      exact .list ho hc hd (toRs_reads I sh rr rv q)
  | _, .dct ks ds, _, p, .dct h a b rr, r, e => by
    unfold toR at e
    split at e
    case isFalse => cases e
    rename_i hlen
    cases q : toRs ds with
    | none => rw [q] at e; cases e
    | some ps =>
      rw [q] at e
      cases e
      cases r
      obtain ⟨_, hsys, vs, kv, o, es, ep, h1, h2, h3, _, h5, _⟩ := dk_rd I.hok (sh.rd h)
      obtain ⟨hv, hk⟩ := kv_vals kv
      have hvl : ds.length = vs.length := by rw [← hlen, ← a, hk, List.length_map]
      refine .dict h1 h2.1 h3 (fun z => by rw [z] at hsys; simp at hsys) ?_ ?_
      · rw [← a, hk]
        exact keys_rq h5 (by rw [toRs_len q]; exact hvl)
      · rw [zip_snd (by rw [List.length_map, toRs_len q, hlen]; exact Nat.le_refl _), vals_of_pairs h5]
        exact toRs_reads I sh rr (by rw [← b]; exact hv) q
  | _, .rdl _, _, _, .rdl _ _, _, e => by unfold toR at e; cases e
  | _, _, _, _, .ins _ _ _ _ _ _, _, e => by unfold toR at e; cases e
  | _, _, _, _, .exc _ _ _ _ _ _ _, _, e => by unfold toR at e; cases e
  | _, _, _, _, .exc0 _ _ _, _, e => by unfold toR at e; cases e
  | _, _, _, _, .ty _, _, e => by unfold toR at e; cases e
  | _, _, _, _, .obj _, _, e => by unfold toR at e; cases e
  | _, _, _, _, .fn _, _, e => by unfold toR at e; cases e
  | _, _, _, _, .loc _, _, e => by unfold toR at e; cases e
  | _, _, _, _, .deck _, _, e => by unfold toR at e; cases e
theorem toRs_reads (I : Inv X pins σ H s) (sh : Sub S.hp H) : ∀ {vs : List V} {ds : List D} {us : List Value} {ps : List PyData}, RpL X.K S vs ds → Vals vs us → toRs ds = some ps → RqL s.heap us ps
  | _, _, _, _, .nil, r, e => by unfold toRs at e; cases e; cases r; exact .nil
  | _, d :: ds, _, p, .cons h t, r, e => by
    unfold toRs at e
    cases q : toR d with
    | none => rw [q] at e; cases e
    | some a =>
      cases q2 : toRs ds with
      | none => rw [q, q2] at e; cases e
      | some b =>
        rw [q, q2] at e
        cases e
        cases r with
        | cons r1 r2 => exact .cons (toR_reads I sh h r1 q) (toRs_reads I sh t r2 q2)
end
end
section
variable {X : Cx}
def rRepr (X : Cx) : List V → Hp → VK → Prop := fun xs H Q => ∃ v S d p, xs = [v] ∧ Sub (S : Sx).hp H ∧ Rp X.K S v d ∧ toR d = some p ∧ p.showable = true ∧ p.depth ≤ 60 ∧ p.shown.length ≤ sizeLine ∧ Q (.str p.shown) H
theorem call_reprD (hg : X.A.guards = some []) (hu : X.A.units + 100 < cLine) : CallR X (.builtin "repr") (rRepr X) := by
  intro pins s σ H xs us Q I r h
  obtain ⟨v, S, d, p, rfl, sh, rv, e, hsh, hd, hl, q⟩ := h
  cases r with
  | cons r1 r2 =>
    cases r2
    have done : ∀ tk, Q (.str p.shown) H → EP X pins σ Q (.str p.shown s.toks) { s with toks := tk } := fun tk q => ⟨.str _, H, I.tok _, ⟨_, rfl⟩, q⟩
    have go : ∀ a, RelV v (.ref a) → toR d = some p → wpAny (model X.prog X.w) X.A (call (.builtin "repr") [.ref a]) (EP X pins σ Q) X.xe s := fun a r1 e =>
      repr_rq (toR_reads I sh rv r1 e) hsh hg (by omega) (fun _ _ e => e) (fun h' u tk k => ⟨.str _, H, I.kept k, ⟨_, rfl⟩, q⟩) hl
    cases rv with
    | non => unfold toR at e; cases e; cases r1; exact PySem.P.repr_of_none (done _ q)
    | bl b => unfold toR at e; cases e; cases r1; exact PySem.P.repr_of_bool (done _ q)
    | int i =>
      unfold toR at e
      cases e
      obtain ⟨t, rfl⟩ := r1
      exact PySem.P.repr_of_int (by simpa [PyData.showable] using hsh) (done _ q)
    | str x => unfold toR at e; cases e; obtain ⟨t, rfl⟩ := r1; exact PySem.P.repr_of_str (done _ q) hl
    | tup h1 h2 => cases r1; exact go _ rfl e
    | lst h1 h2 => cases r1; exact go _ rfl e
    | dct h1 h2 h3 h4 => cases r1; exact go _ rfl e
    | rdl _ _ => unfold toR at e; cases e
    | ins _ _ _ _ _ _ => unfold toR at e; cases e
    | exc _ _ _ _ _ _ _ => unfold toR at e; cases e
    | exc0 _ _ _ => unfold toR at e; cases e
    | ty _ => unfold toR at e; cases e
    | obj _ => unfold toR at e; cases e
    | fn _ => unfold toR at e; cases e
    | loc _ => unfold toR at e; cases e
    | deck _ => unfold toR at e; cases e
theorem x_repr (hg : X.A.guards = some []) (hu : X.A.units + 100 < cLine) : CallX X (.builtin "repr") gRepr := by
  refine ⟨_, call_reprD hg hu, fun S H xs ds z Q sh r eg q => ?_⟩
  unfold gRepr at eg
  split at eg
  case h_2 => cases eg
  rename_i d
  cases h : toR d with
  | none => rw [h] at eg; cases eg
  | some p =>
    rw [h] at eg
    simp only [Option.bind_some] at eg
    split at eg
    case isFalse => cases eg
    rename_i c
    cases eg
    obtain ⟨v, rfl, rv⟩ := one_of r
    exact ⟨v, S, d, p, rfl, sh, rv, h, c.1, c.2.1, c.2.2, q _ S H (Grow.refl sh) (.str _)⟩
end
end WS
namespace WS
open PySem PySem.Spec PyProof.Rows L2
variable {W : WX}
def sOwnL (i : Nat) (fs : EL) : SS := fun ρ k => (fs ρ k).bind fun x => if x.1.length ≤ sizeLine then some (.nx, x.2.1.set i (.own (.lst x.1)), x.2.2) else none
def sApp (i : Nat) (f : E) : SS := fun ρ k => match ρ[i]? with
  | some (.own (.lst _)) => (f ρ k).bind fun x => match x.2.1[i]? with
    | some (.own (.lst ds)) => if ds.length < sizeLine then some (.nx, x.2.1.set i (.own (.lst (ds ++ [x.1]))), x.2.2) else none
    | _ => none
  | _ => none
def sExt (i : Nat) (f : E) : SS := fun ρ k => match ρ[i]? with
  | some (.own (.lst _)) => (f ρ k).bind fun x => match x.2.1[i]?, x.1 with
    | some (.own (.lst ds)), .lst es => if ds.length + es.length ≤ sizeLine then some (.nx, x.2.1.set i (.own (.lst (ds ++ es))), x.2.2) else none
    | _, _ => none
  | _ => none
section
variable {K : PySem.W.Frag} {σ : L2.St} {H : Hp} {D' : Ends} {i : Nat}
theorem tsv_ownL {fs : EL} (h : TSv K W (sOwnL i fs) D' σ H) : tAsg (tLst (TAv K fs)) (gName i) D' σ H := by
  obtain ⟨S, F, ρ, dk, o, ρ', dk', R, e, q⟩ := h
  unfold sOwnL at e
  cases ea : fs ρ dk with
  | none => rw [ea] at e; cases e
  | some x =>
    obtain ⟨ds, ρ1, k1⟩ := x
    rw [ea] at e
    simp only [Option.bind_some] at e
    split at e
    case isFalse => cases e
    rename_i hl
    cases e
    refine ⟨S, F, ρ, dk, ds, ρ1, _, R, ea, fun vs H1 S1 l1 R1 rv => ⟨by rw [rv.length]; exact hl, fun p hp => ?_⟩⟩
    exact q _ _ S1 l1 (R1.putOwn (Sub.new hp) hp ⟨vs, upd_same, rv⟩)
theorem tsv_app {f : E} (h : TSv K W (sApp i f) D' σ H) : tDrop (tBM K "list" rAppend (tVar i) (tCons (TEv K f) tNil)) D' σ H := by
  obtain ⟨S, F, ρ, dk, o, ρ', dk', R, e, q⟩ := h
  unfold sApp at e
  split at e
  case h_2 => cases e
  rename_i d0 h0
  obtain ⟨p, hp, ⟨xs, hx, _⟩, _⟩ := R.env i _ h0
  cases ea : f ρ dk with
  | none => rw [ea] at e; cases e
  | some x =>
    obtain ⟨d, ρ1, k1⟩ := x
    rw [ea] at e
    simp only [Option.bind_some] at e
    split at e
    case h_2 => cases e
    rename_i ds h1
    split at e
    case isFalse => cases e
    rename_i hl
    cases e
    refine ⟨.ref p, hp, .inl ⟨rfl, _, .inl (.inl hx)⟩, S, F, ρ, dk, d, ρ1, _, R, ea, fun v H1 S1 l1 R1 rv => ?_⟩
    obtain ⟨p', hp', ⟨ys, hy, ry⟩, _⟩ := R1.env i _ h1
    rw [hp] at hp'; cases hp'
    exact ⟨p, ys, v, rfl, rfl, hy, by rw [ry.length]; exact hl, q _ _ S1 l1 (R1.turnOwn h1 hp ⟨_, upd_same, ry.app (.cons rv .nil)⟩)⟩
end
def lkD : List Key → List D → Key → Option D
  | k :: ks, d :: ds, z => if k = z then some d else lkD ks ds z
  | _, _, _ => none
def repD : List Key → List D → Key → D → List D
  | k :: ks, d :: ds, z, v => (if k = z then v else d) :: repD ks ds z v
  | _, _, _, _ => []
def putD (ks : List Key) (ds : List D) (z : Key) (v : D) : List Key × List D := if (ks.any fun k => decide (k = z)) = true then (ks, repD ks ds z v) else (ks ++ [z], ds ++ [v])
def keyD : D → Option Key
  | .int i => some (.inl i)
  | .str x => some (.inr x)
  | _ => none
def gGet : D → D → Option D
  | .dct ks ds, y => (keyD y).bind fun z => lkD ks ds z
  | _, _ => none
section
variable {K : PySem.W.Frag} {S : Sx}
theorem lk_some {z : Key} : ∀ {kvs : List (Key × V)} {ds : List D} {d : D}, RpL K S (kvs.map (·.2)) ds → lkD (kvs.map (·.1)) ds z = some d → ∃ v, valV kvs z = some v ∧ Rp K S v d
  | [], _, _, .nil, e => by cases e
  | (k, v) :: r, _, _, .cons h t, e => by
    unfold List.map lkD at e
    by_cases q : k = z
    · rw [if_pos q] at e
      cases e
      exact ⟨v, valV_pos (p := (k, v)) q, h⟩
    · rw [if_neg q] at e
      obtain ⟨u, h1, h2⟩ := lk_some t e
      exact ⟨u, by rw [valV_neg (p := (k, v)) q]; exact h1, h2⟩
theorem lk_none {z : Key} : ∀ {kvs : List (Key × V)} {ds : List D}, RpL K S (kvs.map (·.2)) ds → lkD (kvs.map (·.1)) ds z = none → valV kvs z = none
  | [], _, .nil, e => rfl
  | (k, v) :: r, _, .cons h t, e => by
    unfold List.map lkD at e
    by_cases q : k = z
    · rw [if_pos q] at e; cases e
    · rw [if_neg q] at e
      rw [valV_neg (p := (k, v)) q]
      exact lk_none t e
theorem lk_is {z : Key} {kvs : List (Key × V)} {ds : List D} (r : RpL K S (kvs.map (·.2)) ds) : (lkD (kvs.map (·.1)) ds z).isSome = (valV kvs z).isSome := by
  cases h : lkD (kvs.map (·.1)) ds z with
  | none => rw [lk_none r h]; rfl
  | some d =>
    obtain ⟨v, hv, _⟩ := lk_some r h
    rw [hv]; rfl
theorem key_of_rp {v : V} {y : D} {z : Key} (r : Rp K S v y) (e : keyD y = some z) : v = kV z := by
  cases r with
  | int i => cases e; rfl
  | str x => cases e; rfl
  | _ => cases e
theorem rep_ok {z : Key} {x : V} {y : D} (hx : Rp K S x y) : ∀ {kvs : List (Key × V)} {ds : List D}, RpL K S (kvs.map (·.2)) ds →
    (kvs.map fun kv => if kv.1 = z then (kv.1, x) else kv).map (·.1) = kvs.map (·.1) ∧ RpL K S ((kvs.map fun kv => if kv.1 = z then (kv.1, x) else kv).map (·.2)) (repD (kvs.map (·.1)) ds z y)
  | [], _, .nil => ⟨rfl, .nil⟩
  | (k, v) :: r, _, .cons h t => by
    obtain ⟨h1, h2⟩ := rep_ok hx t
    simp only [List.map_cons, repD]
    by_cases q : k = z
    · rw [if_pos q, if_pos q]; exact ⟨by rw [h1], .cons hx h2⟩
    · rw [if_neg q, if_neg q]; exact ⟨by rw [h1], .cons h h2⟩
theorem put_ok {z : Key} {x : V} {y : D} (hx : Rp K S x y) {kvs : List (Key × V)} {ds : List D} (r : RpL K S (kvs.map (·.2)) ds) : (putK kvs z x).map (·.1) = (putD (kvs.map (·.1)) ds z y).1 ∧ RpL K S ((putK kvs z x).map (·.2)) (putD (kvs.map (·.1)) ds z y).2 := by
  have e : (kvs.any fun kv => decide (kv.1 = z)) = ((kvs.map (·.1)).any fun k => decide (k = z)) := by rw [List.any_map]; rfl
  unfold putK putD
  rw [e]
  split
  · exact rep_ok hx r
  · refine ⟨by simp, ?_⟩
    rw [List.map_append]
    exact r.app (.cons hx .nil)
end
section
variable {X : Cx} {e : Expr} {es : List Expr} {fs : EL} {f : E} {i : Nat} {x : Str} {pos p1 p2 p3 apos cpos : Pos}
theorem s_ownL (ha : PA X es (TAv X.K fs)) (hN : X.N.Nodup) (hi : X.N[i]? = some x) (hx : Loc X.env.scope x) (hf : X.fn x = true ∨ X.env.scope.names.lookup x = some .local := by first | exact .inl (by kernel_rfl!) | exact .inr (by kernel_rfl!) | assumption)
    (hs : swapsWithSole [.Name x p1] (.List es p2) pos.line X.env = pure false := by kernel_rfl!) (hw : swappedStores [.Name x p1] (.List es p2) X.env = pure none := by kernel_rfl!) (h1 : (assignEach [.Name x p1] X.env).map (·.2) = [assign (.Name x p1) X.env] := by kernel_rfl!) :
    PS X (.Assign [.Name x p1] (.List es p2) pos) (TSv X.K W (sOwnL i fs)) := (ps_asg (pe_lst ha) (pg_name hN hi hx hf) hs hw h1).imp fun _ _ _ h => tsv_ownL h
theorem s_app (hN : X.N[i]? = some x) (hv : Vis X.env.scope x) (he : PE X e (TEv X.K f)) (hd : (x == ("__debug__" : Str)) = false := by decide) (hcd : (x == ("__classdict__" : Str)) = false := by decide)
    (hsw : swapsWith (.Call (.Attribute (.Name x p1) "append" apos) [e] [] cpos) none pos.line X.env = pure false := by kernel_rfl!) (hbase : attributeBase (.Name x p1) "append" X.env (eval (.Name x p1) X.env) = eval (.Name x p1) X.env := by kernel_rfl!)
    (hfew : ((backTo cpos (starEach [e] X.env)).all (fun x => !x.1) && (backToKw cpos (keywordEach [] X.env)).all (fun x => x.1.isSome) && decide ([e].length + ([] : List Keyword).length + (if ([] : List Keyword).isEmpty then 0 else 1) < 30)) = true := by kernel_rfl!)
    (hline : (apos.endLine == cpos.line) = true := by kernel_rfl!) (hs : starEach [e] X.env = (false, eval e X.env) :: starEach [] X.env := by kernel_rfl!) (hpl : (backTo cpos (starEach [] X.env)).any (·.1) = false := by kernel_rfl!) :
    PS X (.Expr (.Call (.Attribute (.Name x p1) "append" apos) [e] [] cpos) pos) (TSv X.K W (sApp i f)) :=
  (ps_expr (pe_bm PySem.F.plainAttrs_list PySem.F.slot_list_append PySem.F.type_list_append mt_append (pe_var hN hv hd hcd) (pa_cons he pa_nil hs) hbase hfew hline hs hpl) hsw).imp fun _ _ _ h => tsv_app h
end
end WS
namespace WS
open PySem PySem.Spec PyProof.Rows L2
section
variable {prog : Program} {w : World} {A : Around} {E : Value → Shared → Prop} {s : Shared}
theorem refl_ib_sub : reflectedDiffers (.type "int") (.type "bool") "sub" = pure false := by
  unfold reflectedDiffers
  show (typeLookup (.type "bool") (dunderR "sub") >>= fun rb => typeLookup (.type "int") (dunderR "sub") >>= fun ra => pure (rb.isSome && rb != ra)) = pure false
  rw [typeLookup_type, typeLookup_type, builtinLookup_eq_fast]; kernel_rfl
theorem gives_sub_ib (a : Int) (t : Tok) (b : Bool) : Gives (Builtin.«int.__sub__» ⟨[.int a t, .bool b], []⟩) (.int (a - if b = true then (1 : Int) else 0)) := by cases b <;> exact .of_eq rfl
theorem gives_sub_bi (b : Bool) (a : Int) (t : Tok) : Gives (Builtin.«int.__sub__» ⟨[.bool b, .int a t], []⟩) (.int ((if b = true then (1 : Int) else 0) - a)) := by cases b <;> exact .of_eq rfl
theorem gives_add_bi (b : Bool) (a : Int) (t : Tok) : Gives (Builtin.«int.__add__» ⟨[.bool b, .int a t], []⟩) (.int ((if b = true then (1 : Int) else 0) + a)) := by cases b <;> exact .of_eq rfl
theorem sub_ib {a : Int} {t : Tok} {b : Bool} {Q : Value → Shared → Prop} (h : Q (.int (a - if b = true then (1 : Int) else 0) s.toks) { s with toks := s.toks + 1 }) : wpAny (model prog w) A (binaryOp .Sub (.int a t) (.bool b)) Q E s :=
  binaryOp_sub_gives (op := .Sub) (T := "int") (U := "bool") (by decide) (typeIs_int s a t) rfl F.fills_int_sub F.fills_bool_sub isSubtype_bool_int refl_ib_sub F.slot_int_sub F.entry_int_sub (F.args_int_sub_2 _ _)
    (gives_sub_ib a t b) trivial h
theorem sub_bi {a : Int} {t : Tok} {b : Bool} {Q : Value → Shared → Prop} (h : Q (.int ((if b = true then (1 : Int) else 0) - a) s.toks) { s with toks := s.toks + 1 }) : wpAny (model prog w) A (binaryOp .Sub (.bool b) (.int a t)) Q E s :=
  binaryOp_left_gives (op := .Sub) (T := "bool") (U := "int") (by decide) rfl (fun s' => typeIs_int s' a t) F.fills_bool_sub F.fills_int_sub F.sub_int_bool F.slot_bool_sub F.slot_int_rsub F.entry_int_sub (F.args_int_sub_2 _ _)
    (gives_sub_bi b a t) trivial h
theorem add_bi {a : Int} {t : Tok} {b : Bool} {Q : Value → Shared → Prop} (h : Q (.int ((if b = true then (1 : Int) else 0) + a) s.toks) { s with toks := s.toks + 1 }) : wpAny (model prog w) A (binaryOp .Add (.bool b) (.int a t)) Q E s :=
  binaryOp_left_gives (op := .Add) (T := "bool") (U := "int") (by decide) rfl (fun s' => typeIs_int s' a t) F.fills_bool_add F.fills_int_add F.sub_int_bool F.slot_bool_add F.slot_int_radd F.entry_int_add (F.args_int_add_2 _ _)
    (gives_add_bi b a t) trivial h
end
def gAddB : D → D → Option D
  | .bl k, .int i => some (.int (b2i k + i))
  | d, e => gAdd d e
def gSubB : D → D → Option D
  | .bl k, .int i => some (.int (b2i k - i))
  | .int i, .bl k => some (.int (i - b2i k))
  | d, e => gSub d e
section
variable {X : Cx}
theorem OpX.or {f : Value → Value → Sem Value} {g g' h : D → D → Option D} (a : OpX X f g) (b : OpX X f g') (c : ∀ d e z, h d e = some z → g d e = some z ∨ g' d e = some z) : OpX X f h := by
  obtain ⟨r, h1, h2⟩ := a
  obtain ⟨r', h1', h2'⟩ := b
  refine ⟨_, h1.or h1', fun S H x y d e z Q sh rx ry eg q => ?_⟩
  rcases c d e z eg with k | k
  · exact .inl (h2 S H x y d e z Q sh rx ry k q)
  · exact .inr (h2' S H x y d e z Q sh rx ry k q)
theorem op_add_bi : OpR X (binaryOp .Add) (fun x y H Q => ∃ i k, x = .bl k ∧ y = .int i ∧ Q (.int (b2i k + i)) H) := by
  intro pins s σ H x y v u Q I rx ry h
  obtain ⟨i, k, rfl, rfl, q⟩ := h
  cases rx
  obtain ⟨t, rfl⟩ := ry
  exact add_bi ⟨.int (b2i k + i), H, I.tok _, ⟨_, rfl⟩, q⟩
theorem op_sub_bi : OpR X (binaryOp .Sub) (fun x y H Q => ∃ i k, x = .bl k ∧ y = .int i ∧ Q (.int (b2i k - i)) H) := by
  intro pins s σ H x y v u Q I rx ry h
  obtain ⟨i, k, rfl, rfl, q⟩ := h
  cases rx
  obtain ⟨t, rfl⟩ := ry
  exact sub_bi ⟨.int (b2i k - i), H, I.tok _, ⟨_, rfl⟩, q⟩
theorem op_sub_ib : OpR X (binaryOp .Sub) (fun x y H Q => ∃ i k, x = .int i ∧ y = .bl k ∧ Q (.int (i - b2i k)) H) := by
  intro pins s σ H x y v u Q I rx ry h
  obtain ⟨i, k, rfl, rfl, q⟩ := h
  cases ry
  obtain ⟨t, rfl⟩ := rx
  exact sub_ib ⟨.int (i - b2i k), H, I.tok _, ⟨_, rfl⟩, q⟩
theorem x_addB : OpX X (binaryOp .Add) gAddB := by
  obtain ⟨r, h1, h2⟩ := x_add (X := X)
  refine ⟨_, op_add_bi.or h1, fun S H x y d e z Q sh rx ry eg q => ?_⟩
  unfold gAddB at eg
  split at eg
  · cases eg
    cases rx
    cases ry
    exact .inl ⟨_, _, rfl, rfl, q _ S H (Grow.refl sh) (.int _)⟩
  · exact .inr (h2 S H x y d e z Q sh rx ry eg q)
theorem x_subB : OpX X (binaryOp .Sub) gSubB := by
  obtain ⟨r, h1, h2⟩ := x_sub (X := X)
  refine ⟨_, (op_sub_bi.or op_sub_ib).or h1, fun S H x y d e z Q sh rx ry eg q => ?_⟩
  unfold gSubB at eg
  split at eg
  · cases eg
    cases rx
    cases ry
    exact .inl (.inl ⟨_, _, rfl, rfl, q _ S H (Grow.refl sh) (.int _)⟩)
  · cases eg
    cases rx
    cases ry
    exact .inl (.inr ⟨_, _, rfl, rfl, q _ S H (Grow.refl sh) (.int _)⟩)
  · exact .inr (h2 S H x y d e z Q sh rx ry eg q)
end
def gEqE : D → D → Option D
  | .str a, .str b => some (.bl (decide (a = b)))
  | .tup a, .tup b => if a = [] ∨ b = [] then some (.bl (a.isEmpty && b.isEmpty)) else gEq (.tup a) (.tup b)
  | .lst a, .lst b => if a = [] ∨ b = [] then some (.bl (a.isEmpty && b.isEmpty)) else gEq (.lst a) (.lst b)
  | d, e => gEq d e
def gNeE : D → D → Option D
  | .str a, .str b => some (.bl (!decide (a = b)))
  | .tup a, .tup b => if a = [] ∨ b = [] then some (.bl (!(a.isEmpty && b.isEmpty))) else gNe (.tup a) (.tup b)
  | .lst a, .lst b => if a = [] ∨ b = [] then some (.bl (!(a.isEmpty && b.isEmpty))) else gNe (.lst a) (.lst b)
  | d, e => gNe d e
section
variable {X : Cx}
theorem V.str_eq {a b : Str} : decide (V.str a = V.str b) = decide (a = b) := by
  by_cases h : a = b
  · subst h; simp
  · rw [decide_eq_false h, decide_eq_false (fun z => h (by injection z))]
theorem RpL.isEmpty {K : PySem.W.Frag} {S : Sx} {vs : List V} {ds : List D} (r : RpL K S vs ds) : vs.isEmpty = ds.isEmpty := by cases r <;> rfl
theorem RpL.nil_or {K : PySem.W.Frag} {S : Sx} {vs us : List V} {ds es : List D} (r : RpL K S vs ds) (r' : RpL K S us es) (h : ds = [] ∨ es = []) : vs = [] ∨ us = [] := by
  rcases h with h | h
  · subst h; cases r; exact .inl rfl
  · subst h; cases r'; exact .inr rfl
/-- two tuples, two lists of which one is empty -/
def rSeqE (K : PySem.W.Frag) (f : Bool → Bool) : R2 := fun x y H Q => ∃ a b xs ys, x = .ref a ∧ y = .ref b ∧ ((SqT K H a xs ∧ SqT K H b ys) ∨ (SqL K H a xs ∧ SqL K H b ys)) ∧ (xs = [] ∨ ys = []) ∧ Q (.bl (f (xs.isEmpty && ys.isEmpty))) H
theorem szE {xs ys : List V} {its its2 : List Value} (n1 : xs.length = its.length) (n2 : ys.length = its2.length) (h0 : xs = [] ∨ ys = []) : ((List.range (min its.toArray.size its2.toArray.size)).all (fun _ => true) && its.toArray.size == its2.toArray.size) = (xs.isEmpty && ys.isEmpty) := by
  simp only [List.size_toArray]
  rw [← n1, ← n2]
  rcases h0 with z | z <;> subst z
  · cases ys <;> simp
  · cases xs <;> simp
theorem noE {xs ys : List V} {its its2 : List Value} (n1 : xs.length = its.length) (n2 : ys.length = its2.length) (h0 : xs = [] ∨ ys = []) {p : Prop} (j : Nat) (j1 : j < its.toArray.size) (j2 : j < its2.toArray.size) : p := by
  exfalso
  simp only [List.size_toArray] at j1 j2
  rcases h0 with z | z <;> subst z <;> simp at n1 n2 <;> omega
theorem eE {xs ys : List V} {its its2 : List Value} (n1 : xs.length = its.length) (n2 : ys.length = its2.length) (h0 : xs = [] ∨ ys = []) (hs : its.toArray.size = its2.toArray.size) : (xs.isEmpty && ys.isEmpty) = true ∧ its.toArray.size = 0 := by
  simp only [List.size_toArray] at hs ⊢
  rw [← n1, ← n2] at hs
  rcases h0 with z | z <;> subst z
  · cases ys
    · exact ⟨rfl, by simpa using n1.symm⟩
    · simp at hs
  · cases xs
    · exact ⟨rfl, by simpa using n1.symm⟩
    · simp at hs
theorem fE {xs ys : List V} {its its2 : List Value} (n1 : xs.length = its.length) (n2 : ys.length = its2.length) (hs : ¬ its.toArray.size = its2.toArray.size) : (xs.isEmpty && ys.isEmpty) = false := by
  simp only [List.size_toArray] at hs
  rw [← n1, ← n2] at hs
  cases xs
  · cases ys
    · exact absurd rfl hs
    · rfl
  · rfl
theorem seqE {pins : List (Addr × Obj)} {s : Shared} {σ : L2.St} {H : Hp} {a b : Addr} {xs ys : List V} (I : Inv X pins σ H s) (hu : X.A.units < cLine) (h : (SqT X.K H a xs ∧ SqT X.K H b ys) ∨ (SqL X.K H a xs ∧ SqL X.K H b ys)) (h0 : xs = [] ∨ ys = []) :
    SeqAt.RcAt X.A s (.ref a) (.ref b) (xs.isEmpty && ys.isEmpty) ∧ SeqAt.RcNeAt X.A s (.ref a) (.ref b) (!(xs.isEmpty && ys.isEmpty)) := by
  rcases h with ⟨ha, hb⟩ | ⟨ha, hb⟩
  · obtain ⟨its, rv, ht, _⟩ := I.tuple ha
    obtain ⟨its2, rv2, ht2, _⟩ := I.tuple hb
    have h1 := SeqAt.RcAt.tuples (e := fun _ => true) ht ht2 hu (fun j j1 j2 => noE rv.length rv2.length h0 j j1 j2)
    have h2 := SeqAt.RcNeAt.tuples (e := fun _ => true) ht ht2 hu (fun j j1 j2 => noE rv.length rv2.length h0 j j1 j2)
    rw [szE rv.length rv2.length h0] at h1 h2
    exact ⟨h1, h2⟩
  · obtain ⟨its, rv, ht, _⟩ := I.list ha
    obtain ⟨its2, rv2, ht2, _⟩ := I.list hb
    by_cases hs : its.toArray.size = its2.toArray.size
    · obtain ⟨e1, e2⟩ := eE rv.length rv2.length h0 hs
      have h1 := SeqAt.RcAt.lists (e := fun _ => true) ht.isList ht2.isList hs hu (fun j j1 j2 => noE rv.length rv2.length h0 j j1 j2)
      have h2 := SeqAt.RcNeAt.lists (e := fun _ => true) ht.isList ht2.isList hs hu (fun j j1 j2 => noE rv.length rv2.length h0 j j1 j2)
      rw [e2] at h1 h2
      rw [e1]
      exact ⟨h1, h2⟩
    · have hs' : (its.toArray.size != its2.toArray.size) = true := bne_iff_ne.mpr hs
      rw [fE rv.length rv2.length hs]
      exact ⟨SeqAt.RcAt.lists_lengths ht.isList ht2.isList hs' hu, SeqAt.RcNeAt.lists_lengths ht.isList ht2.isList hs' hu⟩
theorem op_eqTE (hu : X.A.units < cLine) : OpR X (compareOp .Eq) (rSeqE X.K id) := by
  intro pins s σ H x y v u Q I rx ry h
  obtain ⟨a, b, xs, ys, rfl, rfl, ha, h0, q⟩ := h
  cases rx
  cases ry
  exact (seqE I hu ha h0).1 _ _ _ _ ⟨.bl _, H, I, rfl, q⟩
theorem op_neTE (hu : X.A.units < cLine) : OpR X (compareOp .NotEq) (rSeqE X.K fun b => !b) := by
  intro pins s σ H x y v u Q I rx ry h
  obtain ⟨a, b, xs, ys, rfl, rfl, ha, h0, q⟩ := h
  cases rx
  cases ry
  exact (seqE I hu ha h0).2 _ _ _ _ ⟨.bl _, H, I, rfl, q⟩
theorem x_eqE (hu : X.A.units + 64 < cLine) : OpX X (compareOp .Eq) gEqE := by
  obtain ⟨r, h1, h2⟩ := x_eq (X := X) hu
  refine ⟨_, (op_eq.or (op_eqTE (by omega))).or h1, fun S H x y d e z Q sh rx ry eg q => ?_⟩
  unfold gEqE at eg
  split at eg
  · cases eg
    cases rx
    cases ry
    exact .inl (.inl ⟨rfl, by rw [V.str_eq]; exact q _ S H (Grow.refl sh) (.bl _)⟩)
  · split at eg
    · rename_i c
      cases eg
      cases rx with
      | tup ha ra =>
        cases ry with
        | tup hb rb => exact .inl (.inr ⟨_, _, _, _, rfl, rfl, .inl ⟨sh.sqT ha, sh.sqT hb⟩, ra.nil_or rb c, by rw [ra.isEmpty, rb.isEmpty]; exact q _ S H (Grow.refl sh) (.bl _)⟩)
    · exact .inr (h2 S H x y _ _ z Q sh rx ry eg q)
  · split at eg
    · rename_i c
      cases eg
      cases rx with
      | lst ha ra =>
        cases ry with
        | lst hb rb => exact .inl (.inr ⟨_, _, _, _, rfl, rfl, .inr ⟨.inl (.inl (sh _ _ ha)), .inl (.inl (sh _ _ hb))⟩, ra.nil_or rb c, by rw [ra.isEmpty, rb.isEmpty]; exact q _ S H (Grow.refl sh) (.bl _)⟩)
    · exact .inr (h2 S H x y _ _ z Q sh rx ry eg q)
  · exact .inr (h2 S H x y d e z Q sh rx ry eg q)
theorem x_neE (hu : X.A.units + 64 < cLine) : OpX X (compareOp .NotEq) gNeE := by
  obtain ⟨r, h1, h2⟩ := x_ne (X := X) hu
  refine ⟨_, (op_ne.or (op_neTE (by omega))).or h1, fun S H x y d e z Q sh rx ry eg q => ?_⟩
  unfold gNeE at eg
  split at eg
  · cases eg
    cases rx
    cases ry
    exact .inl (.inl ⟨rfl, by rw [V.str_eq]; exact q _ S H (Grow.refl sh) (.bl _)⟩)
  · split at eg
    · rename_i c
      cases eg
      cases rx with
      | tup ha ra =>
        cases ry with
        | tup hb rb => exact .inl (.inr ⟨_, _, _, _, rfl, rfl, .inl ⟨sh.sqT ha, sh.sqT hb⟩, ra.nil_or rb c, by rw [ra.isEmpty, rb.isEmpty]; exact q _ S H (Grow.refl sh) (.bl _)⟩)
    · exact .inr (h2 S H x y _ _ z Q sh rx ry eg q)
  · split at eg
    · rename_i c
      cases eg
      cases rx with
      | lst ha ra =>
        cases ry with
        | lst hb rb => exact .inl (.inr ⟨_, _, _, _, rfl, rfl, .inr ⟨.inl (.inl (sh _ _ ha)), .inl (.inl (sh _ _ hb))⟩, ra.nil_or rb c, by rw [ra.isEmpty, rb.isEmpty]; exact q _ S H (Grow.refl sh) (.bl _)⟩)
    · exact .inr (h2 S H x y _ _ z Q sh rx ry eg q)
  · exact .inr (h2 S H x y d e z Q sh rx ry eg q)
end
def inP (d : D) (xs : List D) : Option Bool := (toP d).bind fun p => (toPs xs).bind fun q => if SeqAt.shaped p = true ∧ SeqAt.shaped (.list q) = true then some (q.any fun z => PyData.eqv z p) else none
def gInS (neg : Bool) : D → D → Option D
  | .str x, .str y => if x.length = 1 then some (.bl (neg != decide (x.cps.getD 0 0 ∈ y.cps.toList))) else none
  | d, .tup xs => (inP d xs).map fun b => .bl (neg != b)
  | d, .lst xs => (inP d xs).map fun b => .bl (neg != b)
  | _, _ => none
def gIn := gInS false
def gNotIn := gInS true
section
variable {X : Cx}
theorem inP_spec {d : D} {xs : List D} {b : Bool} (h : inP d xs = some b) : ∃ p q, toP d = some p ∧ toPs xs = some q ∧ SeqAt.shaped p = true ∧ SeqAt.shaped (.list q) = true ∧ b = q.any fun z => PyData.eqv z p := by
  unfold inP at h
  cases hp : toP d with
  | none => rw [hp] at h; cases h
  | some p =>
    cases hq : toPs xs with
    | none => rw [hp, hq] at h; cases h
    | some q =>
      rw [hp, hq] at h
      simp only [Option.bind_some] at h
      split at h
      · rename_i c; cases h; exact ⟨p, q, rfl, rfl, c.1, c.2, rfl⟩
      · cases h
def rInT (K : PySem.W.Frag) (neg : Bool) : R2 := fun x y H Q => ∃ d ds, Dp K H x d ∧ Dp K H y (.tuple ds) ∧ SeqAt.shaped d = true ∧ SeqAt.shaped (.list ds) = true ∧ Q (.bl (neg != ds.any fun z => PyData.eqv z d)) H
theorem op_inT (hu : X.A.units + 65 < cLine) : OpR X (compareOp .In) (rInT X.K false) := by
  intro pins s σ H x y v u Q I rx ry h
  obtain ⟨d, ds, hd, he, sd, se, q⟩ := h
  obtain ⟨as, r1⟩ := Dp.reads I d x v hd rx
  obtain ⟨bs, r2⟩ := Dp.reads I (.tuple ds) y u he ry
  exact SeqAt.in_tuple_reads r2 r1 (SeqAt.canLay_of_shaped se) (SeqAt.canLay_of_shaped sd) (room_in_shaped sd hu) ⟨.bl _, H, I, by simp [L2.RelV], q⟩
theorem op_notInT (hu : X.A.units + 65 < cLine) : OpR X (compareOp .NotIn) (rInT X.K true) := by
  intro pins s σ H x y v u Q I rx ry h
  obtain ⟨d, ds, hd, he, sd, se, q⟩ := h
  obtain ⟨as, r1⟩ := Dp.reads I d x v hd rx
  obtain ⟨bs, r2⟩ := Dp.reads I (.tuple ds) y u he ry
  exact SeqAt.notIn_tuple_reads r2 r1 (SeqAt.canLay_of_shaped se) (SeqAt.canLay_of_shaped sd) (room_in_shaped sd hu) ⟨.bl _, H, I, by simp [L2.RelV], q⟩
theorem one_str {x : Str} (h : x.length = 1) : x = ⟨#[x.cps.getD 0 0]⟩ := by
  obtain ⟨a⟩ := x
  obtain ⟨l⟩ := a
  have hl : l.length = 1 := h
  match l, hl with
  | [c], _ => rfl
theorem x_inG (neg : Bool) {op : CmpOp} {r r' : R2} {f : V → V → Hp → VK → Prop} (h1 : OpR X (compareOp op) (fun x y H Q => ∃ (c : Nat) (z : Str), x = .str ⟨#[c]⟩ ∧ y = .str z ∧ Q (.bl (neg != decide (c ∈ z.cps.toList))) H)) (h2 : OpR X (compareOp op) (rInT X.K neg))
    (h3 : OpR X (compareOp op) (fun x y H Q => ∃ d ds, Dp X.K H x d ∧ Dp X.K H y (.list ds) ∧ SeqAt.shaped d = true ∧ SeqAt.shaped (.list ds) = true ∧ Q (.bl (neg != ds.any fun z => PyData.eqv z d)) H)) : OpX X (compareOp op) (gInS neg) := by
  refine ⟨_, h1.or (h2.or h3), fun S H x y d e z Q sh rx ry eg q => ?_⟩
  unfold gInS at eg
  split at eg
  · split at eg
    · rename_i x0 y0 hl
      cases eg
      cases rx
      cases ry
      exact .inl ⟨x0.cps.getD 0 0, y0, by rw [← one_str hl], rfl, q _ S H (Grow.refl sh) (.bl _)⟩
    · cases eg
  · rename_i xs
    cases hi : inP d xs with
    | none => rw [hi] at eg; cases eg
    | some b =>
      rw [hi] at eg
      cases eg
      obtain ⟨p, l, e1, e2, s1, s2, rfl⟩ := inP_spec hi
      refine .inr (.inl ⟨p, l, toP_dp sh rx e1, ?_, s1, s2, q _ S H (Grow.refl sh) (.bl _)⟩)
      exact toP_dp sh ry (by unfold toP; rw [e2]; rfl)
  · rename_i xs
    cases hi : inP d xs with
    | none => rw [hi] at eg; cases eg
    | some b =>
      rw [hi] at eg
      cases eg
      obtain ⟨p, l, e1, e2, s1, s2, rfl⟩ := inP_spec hi
      refine .inr (.inr ⟨p, l, toP_dp sh rx e1, ?_, s1, s2, q _ S H (Grow.refl sh) (.bl _)⟩)
      exact toP_dp sh ry (by unfold toP; rw [e2]; rfl)
  · cases eg
theorem OpR.imp {f : Value → Value → Sem Value} {r r' : R2} (h : OpR X f r) (i : ∀ x y H Q, r' x y H Q → r x y H Q) : OpR X f r' := fun pins s σ H x y v u Q I rx ry q => h pins s σ H x y v u Q I rx ry (i _ _ _ _ q)
theorem x_in (hu : X.A.units + 65 < cLine) : OpX X (compareOp .In) gIn :=
  x_inG (r := fun _ _ _ _ => True) (r' := fun _ _ _ _ => True) (f := fun _ _ _ _ => True) false (OpR.imp op_in_sign fun x y H Q h => by simpa using h) (op_inT hu) (OpR.imp (op_inD hu) fun x y H Q h => by unfold rInD; simpa using h)
theorem x_notIn (hu : X.A.units + 65 < cLine) : OpX X (compareOp .NotIn) gNotIn :=
  x_inG (r := fun _ _ _ _ => True) (r' := fun _ _ _ _ => True) (f := fun _ _ _ _ => True) true (OpR.imp op_notIn_sign fun x y H Q h => by simpa using h) (op_notInT hu) (OpR.imp (op_notInD hu) fun x y H Q h => by unfold rNotInD; simpa using h)
end
end WS
namespace WS
open PySem PySem.Spec PyProof.Rows L2
variable {W : WX}
section
variable {K : PySem.W.Frag} {σ : L2.St} {H : Hp}
theorem TEv.mono {f : E} {Q Q' : VK} (h : TEv K f σ H Q) (i : ∀ v H, Q v H → Q' v H) : TEv K f σ H Q' := by
  obtain ⟨S, F, ρ, dk, d, ρ', dk', R, e, q⟩ := h
  exact ⟨S, F, ρ, dk, d, ρ', dk', R, e, fun v H' S' l R' rv => i _ _ (q v H' S' l R' rv)⟩
end
def DPs (X : Cx) (pos : Pos) (keys : List (Option Expr)) (vals : List Expr) (ks : List Key) (fs : EL) : Prop :=
  ∃ trs, PPs X pos keys vals trs ∧ ∀ (σ : L2.St) (H : Hp) (Q : List (V × V) → Hp → Prop), TAv X.K fs σ H (fun vs H' => Q ((ks.map kV).zip vs) H') → tPairs trs σ H Q
def eDisp (ks : List Key) (fs : EL) : E := fun ρ k => (fs ρ k).bind fun x => if x.1.length = ks.length then some (.dct ks x.1, x.2.1, x.2.2) else none
def sOwnD (i : Nat) (ks : List Key) (fs : EL) : SS := fun ρ k => (fs ρ k).bind fun x => if x.1.length = ks.length then some (.nx, x.2.1.set i (.own (.dct ks x.1)), x.2.2) else none
section
variable {X : Cx} {pos : Pos} {keys : List (Option Expr)} {vals : List Expr} {ks : List Key} {fs : EL} {f : E} {v : Expr} {σ : L2.St} {H : Hp} {Q : VK}
theorem dp_nil : DPs X pos [] [] [] aNil := ⟨[], pps_nil, fun σ H Q h => tav_nil h⟩
theorem dp_cons {x : Str} {j} {p : Pos} (hv : PE X v (TEv X.K f)) (hr : DPs X pos keys vals ks fs) : DPs X pos (some (.Constant (.str x) j p) :: keys) (v :: vals) (.inr x :: ks) (aCons f fs) := by
  obtain ⟨trs, h1, h2⟩ := hr
  exact ⟨_, pps_cons pe_str hv h1, fun σ H Q h => (tav_cons h : TEv X.K f σ H fun y H1 => TAv X.K fs σ H1 fun vs H2 => Q (((Sum.inr x :: ks).map kV).zip (y :: vs)) H2).mono fun y H1 h => h2 σ H1 _ h⟩
theorem dp_consI {x : Int} {j} {p : Pos} (hv : PE X v (TEv X.K f)) (hr : DPs X pos keys vals ks fs) : DPs X pos (some (.Constant (.int x) j p) :: keys) (v :: vals) (.inl x :: ks) (aCons f fs) := by
  obtain ⟨trs, h1, h2⟩ := hr
  exact ⟨_, pps_cons pe_int hv h1, fun σ H Q h => (tav_cons h : TEv X.K f σ H fun y H1 => TAv X.K fs σ H1 fun vs H2 => Q (((Sum.inl x :: ks).map kV).zip (y :: vs)) H2).mono fun y H1 h => h2 σ H1 _ h⟩
theorem putK_end {kvs : List (Key × V)} {k : Key} {v : V} (h : k ∉ kvs.map (·.1)) : putK kvs k v = kvs ++ [(k, v)] := by
  unfold putK
  rw [if_neg]
  intro z
  obtain ⟨kv, h1, h2⟩ := List.any_eq_true.mp z
  exact h (List.mem_map.mpr ⟨kv, h1, of_decide_eq_true h2⟩)
theorem merge_nodup : ∀ {more kvs : List (Key × V)}, (more.map (·.1)).Nodup → (∀ k ∈ more.map (·.1), k ∉ kvs.map (·.1)) → mergeK kvs more = kvs ++ more
  | [], kvs, _, _ => by simp [mergeK]
  | (k, v) :: r, kvs, hn, hd => by
    rw [List.map_cons, List.nodup_cons] at hn
    show mergeK (putK kvs k v) r = kvs ++ (k, v) :: r
    rw [putK_end (hd k (by simp)), merge_nodup hn.2 ?_, List.append_assoc]
    · rfl
    · intro k' hk' hm
      rw [List.map_append, List.mem_append] at hm
      rcases hm with hm | hm
      · exact hd k' (by rw [List.map_cons]; exact List.mem_cons_of_mem _ hk') hm
      · rw [List.map_cons, List.map_nil, List.mem_singleton] at hm
        exact hn.1 (hm ▸ hk')
theorem zip_kV : ∀ {ks : List Key} {vs : List V}, (ks.map kV).zip vs = (ks.zip vs).map fun kv => (kV kv.1, kv.2)
  | [], vs => by simp
  | k :: ks, [] => by simp
  | k :: ks, v :: vs => by simp [zip_kV (ks := ks)]
theorem zip_fst : ∀ {ks : List Key} {vs : List V}, vs.length = ks.length → (ks.zip vs).map (·.1) = ks
  | [], vs, _ => by simp
  | k :: ks, [], h => by simp at h
  | k :: ks, v :: vs, h => by simp only [List.zip_cons_cons, List.map_cons]; rw [zip_fst (by simpa using h)]
theorem zip_snd' : ∀ {ks : List Key} {vs : List V}, vs.length = ks.length → (ks.zip vs).map (·.2) = vs
  | [], [], _ => by simp
  | [], v :: vs, h => by simp at h
  | k :: ks, [], h => by simp at h
  | k :: ks, v :: vs, h => by simp only [List.zip_cons_cons, List.map_cons]; rw [zip_snd' (by simpa using h)]
theorem disp_run {S : Sx} {F : Hp} {ρ ρ1 : List Sl} {dk k1 : Dk} {ds : List D} {trs : List (TE × TE)} (h2 : ∀ (σ : L2.St) (H : Hp) (Q : List (V × V) → Hp → Prop), TAv X.K fs σ H (fun vs H' => Q ((ks.map kV).zip vs) H') → tPairs trs σ H Q)
    (hnd : ks.Nodup) (h15 : ks.length ≤ 15) (R : Rep X.K σ H S F ρ dk) (ea : fs ρ dk = some (ds, ρ1, k1)) (hl : ds.length = ks.length)
    (q : ∀ p H2 S2 kvs, H p = none → F p = none → Le S S2 → Rep X.K σ (upd H2 p (.dK kvs)) S2 (upd F p (.dK kvs)) ρ1 k1 → kvs.map (·.1) = ks → RpL X.K S2 (kvs.map (·.2)) ds → Q (.ref p) (upd H2 p (.dK kvs))) : tDisp trs σ H Q := by
  intro p hp
  refine h2 σ _ _ ⟨S, upd F p (.dK []), ρ, dk, ds, ρ1, k1, R.frame hp, ea, fun vs H1 S1 l1 R1 rv => ?_⟩
  have hvl : vs.length = ks.length := rv.length.trans hl
  refine ⟨R1.fh _ _ upd_same, ks.zip vs, zip_kV, by rw [List.length_zip, hvl]; simpa using h15, ?_⟩
  rw [merge_nodup (by rw [zip_fst hvl]; exact hnd) (by simp), List.nil_append]
  exact q p H1 S1 _ hp (R.fh.none hp) l1 R1.turnF (zip_fst hvl) (by rw [zip_snd' hvl]; exact rv)
theorem d_disp (h : DPs X pos keys vals ks fs) (hall : keys.all (·.isSome) = true) (hl : keys.length = vals.length) (h0 : keys ≠ []) (h15 : keys.length ≤ 15) (hkl : ks.length ≤ 15) (hnd : ks.Nodup) : PE X (.Dict keys vals pos) (TEv X.K (eDisp ks fs)) := by
  obtain ⟨trs, h1, h2⟩ := h
  refine (pe_disp h1 hall hl h0 h15).imp fun σ H Q h => ?_
  obtain ⟨S, F, ρ, dk, d, ρ', dk', R, e, q⟩ := h
  unfold eDisp at e
  cases ea : fs ρ dk with
  | none => rw [ea] at e; cases e
  | some x =>
    obtain ⟨ds, ρ1, k1⟩ := x
    rw [ea] at e
    simp only [Option.bind_some] at e
    split at e
    case isFalse => cases e
    rename_i hlen
    cases e
    refine disp_run h2 hnd hkl R ea hlen fun p H2 S2 kvs hp nF l2 R2 e1 rv => ?_
    have R3 := R2.unframe nF
    have sp : S2.hp p = none := R2.fs _ _ upd_same
    have le : Le S2 (S2.add p (.dK kvs)) := ⟨Sub.new sp, fun a e => e, fun _ _ e => e⟩
    exact q _ _ _ (l2.trans le) R3 (.dct (.inl Sx.add_at) e1 rfl (rv.mono le))
/-- a framed thing becomes a slot's own -/
theorem Rep.ownF {K : PySem.W.Frag} {S : Sx} {F : Hp} {ρ : List Sl} {dk : Dk} {i : Nat} {p : Addr} {o : HO} {d : D} (r : Rep K σ H S (upd F p o) ρ dk) (nF : F p = none) (h : OwnAt K S H p d) : Rep K (σ.set i (some (.ref p))) H S F (ρ.set i (.own d)) dk := by
  have hp : H p = some o := r.fh _ _ upd_same
  have sp : S.hp p = none := r.fs _ _ upd_same
  have fr : ∀ a, upd F p o a = none → a ≠ p ∧ F a = none := fun a e => by
    by_cases q : a = p
    · subst q; rw [upd_same] at e; cases e
    · rw [upd_ne q] at e; exact ⟨q, e⟩
  have old : ∀ (j : Nat) (c : D), i ≠ j → (ρ.set i (.own d))[j]? = some (Sl.own c) → ρ[j]? = some (Sl.own c) := fun j c q e => by rw [List.getElem?_set_ne q] at e; exact e
  have nown : ∀ (j : Nat) (c : D), ρ[j]? = some (Sl.own c) → σ[j]? ≠ some (some (V.ref p)) := fun j c e z => by
    obtain ⟨p', h1, h2, _, h4⟩ := r.env j _ e
    rw [z] at h1; cases h1
    exact (fr _ h4).1 rfl
  refine ⟨r.sh, fun a u e => ?_, fun a u e => ?_, by simp [r.len], fun j s e => ?_, fun j k c e p' h1 h2 h3 h4 => ?_, ?_⟩
  · exact r.fh a u (by rw [upd_ne (fun z => by subst z; rw [nF] at e; cases e)]; exact e)
  · exact r.fs a u (by rw [upd_ne (fun z => by subst z; rw [nF] at e; cases e)]; exact e)
  · by_cases q : i = j
    · subst q
      have hl : i < ρ.length := by have := Owns.lt e; simpa using this
      rw [List.getElem?_set_self hl] at e
      cases e
      exact ⟨p, by rw [List.getElem?_set_self (by rw [r.len]; exact hl)], h, sp, nF⟩
    · rw [List.getElem?_set_ne q] at e
      have z := r.env j s e
      cases s with
      | no => trivial
      | val c => obtain ⟨u, z1, z2⟩ := z; exact ⟨u, by rw [List.getElem?_set_ne q]; exact z1, z2⟩
      | own c => obtain ⟨p', z1, z2, z3, z4⟩ := z; exact ⟨p', by rw [List.getElem?_set_ne q]; exact z1, z2, z3, (fr _ z4).2⟩
  · by_cases q1 : i = j
    · by_cases q2 : i = k
      · rw [← q1, ← q2]
      · subst q1
        have hl : i < σ.length := by rw [r.len]; have := Owns.lt h1; simpa using this
        rw [List.getElem?_set_self hl] at h3
        cases h3
        rw [List.getElem?_set_ne q2] at h4
        exact (nown k e (old k e q2 h2) h4).elim
    · by_cases q2 : i = k
      · subst q2
        have hl : i < σ.length := by rw [r.len]; have := Owns.lt h2; simpa using this
        rw [List.getElem?_set_self hl] at h4
        cases h4
        rw [List.getElem?_set_ne q1] at h3
        exact (nown j c (old j c q1 h1) h3).elim
      · rw [List.getElem?_set_ne q1] at h3
        rw [List.getElem?_set_ne q2] at h4
        exact r.dist j k c e p' (old j c q1 h1) (old k e q2 h2) h3 h4
  · have q := r.dka
    cases dk with
    | none => exact q
    | some x =>
      obtain ⟨cells, at_, sum, st⟩ := x
      obtain ⟨a, c, q1, q2, q3, q4, q5, q6, q7, q8, q9, q10⟩ := q
      obtain ⟨na, q6⟩ := fr a q6
      obtain ⟨nc, q7⟩ := fr c q7
      have ne : ∀ b, b ≠ p → ¬ Owns σ ρ b → ¬ Owns (σ.set i (some (.ref p))) (ρ.set i (.own d)) b := fun b nb n z => by
        obtain ⟨j, c', z1, z2⟩ := z
        by_cases q : i = j
        · subst q
          have hl : i < σ.length := by rw [r.len]; have := Owns.lt z1; simpa using this
          rw [List.getElem?_set_self hl] at z2
          cases z2
          exact nb rfl
        · rw [List.getElem?_set_ne q] at z2
          exact n ⟨j, c', old j c' q z1, z2⟩
      exact ⟨a, c, q1, q2, q3, q4, q5, q6, q7, ne _ na q8, ne _ nc q9, q10.move (Le.refl S) rfl fun b o _ z1 z2 z3 z4 _ _ => by
        obtain ⟨nb, z3⟩ := fr b z3
        exact ⟨z1, z2, z3, ne _ nb z4⟩⟩
theorem d_dict0 : PE X (.Dict [] [] pos) (TEv X.K (eC (.dct [] []))) := pe_dnewK.imp fun σ H Q h => by
  obtain ⟨S, F, ρ, dk, d, ρ', dk', R, e, q⟩ := h
  cases e
  intro p hp
  have g := Grow.add (o := .dK []) R.sh hp
  exact q _ _ _ g.le (R.grow g) (.dct (.inl Sx.add_at) rfl rfl .nil)
end
def eOGet (i : Nat) (fk : E) : E := fun ρ k => match ρ[i]? with
  | some (.own (.dct _ _)) => (fk ρ k).bind fun y => match y.2.1[i]? with
    | some (.own (.dct ks ds)) => (keyD y.1).bind fun z => (lkD ks ds z).map fun d => (d, y.2.1, y.2.2)
    | _ => none
  | _ => none
def eOIn (neg : Bool) (fk : E) (i : Nat) : E := fun ρ k => (fk ρ k).bind fun y => match y.2.1[i]? with
  | some (.own (.dct ks ds)) => (keyD y.1).map fun z => (.bl (neg != (lkD ks ds z).isSome), y.2.1, y.2.2)
  | _ => none
def sPut (i : Nat) (fk fv : E) : SS := fun ρ k => (fv ρ k).bind fun v => match v.2.1[i]? with
  | some (.own (.dct _ _)) => (fk v.2.1 v.2.2).bind fun y => match y.2.1[i]? with
    | some (.own (.dct ks ds)) => (keyD y.1).bind fun z => if ks.length < sizeLine then some (.nx, y.2.1.set i (.own (.dct (putD ks ds z v.1).1 (putD ks ds z v.1).2)), y.2.2) else none
    | _ => none
  | _ => none
section
variable {K : PySem.W.Frag} {σ : L2.St} {H : Hp} {Q : VK} {D' : Ends} {i : Nat}
theorem own_dct {S : Sx} {F : Hp} {ρ : List Sl} {dk : Dk} {ks : List Key} {ds : List D} (R : Rep K σ H S F ρ dk) (h : ρ[i]? = some (.own (.dct ks ds))) : ∃ p kvs, σ[i]? = some (some (V.ref p)) ∧ H p = some (.dK kvs) ∧ kvs.map (·.1) = ks ∧ RpL K S (kvs.map (·.2)) ds := by
  obtain ⟨p, hp, ⟨kvs, hx, hk, r⟩, _⟩ := R.env i _ h
  exact ⟨p, kvs, hp, hx, hk, r⟩
theorem tev_oget {f : E} (h : TEv K (eOGet i f) σ H Q) : tDGet (tVar i) (TEv K f) σ H Q := by
  obtain ⟨S, F, ρ, dk, d, ρ', dk', R, e, q⟩ := h
  unfold eOGet at e
  split at e
  case h_2 => cases e
  rename_i h0
  obtain ⟨p, _, hp, _⟩ := own_dct R h0
  cases ea : f ρ dk with
  | none => rw [ea] at e; cases e
  | some x =>
    obtain ⟨y, ρ1, k1⟩ := x
    rw [ea] at e
    simp only [Option.bind_some] at e
    split at e
    case h_2 => cases e
    rename_i ks ds h1
    cases hk : keyD y with
    | none => rw [hk] at e; cases e
    | some z =>
      rw [hk] at e
      simp only [Option.bind_some] at e
      cases hl : lkD ks ds z with
      | none => rw [hl] at e; cases e
      | some d0 =>
        rw [hl] at e
        cases e
        refine ⟨.ref p, hp, S, F, ρ, dk, y, _, _, R, ea, fun v H1 S1 l1 R1 rv => ?_⟩
        obtain ⟨p', kvs, hp', hH, hks, rr⟩ := own_dct R1 h1
        rw [hp] at hp'; cases hp'
        subst hks
        obtain ⟨u, hu, ru⟩ := lk_some rr hl
        exact ⟨p, u, rfl, .inl ⟨_, z, .inl hH, key_of_rp rv hk, hu.symm⟩, q _ H1 S1 l1 R1 ru⟩
end
section
variable {X : Cx} {e a b : Expr} {es : List Expr} {fs : EL} {f fv : E} {i : Nat} {x : Str} {pos p1 p2 p3 apos cpos : Pos}
theorem d_oget (hu : X.A.units + 1 < cLine) (hN : X.N[i]? = some x) (hv : Vis X.env.scope x) (he : PE X e (TEv X.K f)) (hs : NoSl e) (hd : (x == ("__debug__" : Str)) = false := by decide) (hcd : (x == ("__classdict__" : Str)) = false := by decide) :
    PE X (.Subscript (.Name x p1) e pos) (TEv X.K (eOGet i f)) := (pe_dget hu (pe_var hN hv hd hcd) he hs).imp fun _ _ _ h => tev_oget h
end
end WS
namespace WS
open PySem PySem.Spec PyProof.Rows L2
def RpK (K : PySem.W.Frag) (u : Value) (d : D) : Prop := ∃ v, L2.RelV v u ∧ ∀ S, Rp K S v d
section
variable {K : PySem.W.Frag}
/-- a table: what stands at each text -/
def KTab (K : PySem.W.Frag) (w : World) (a : Addr) (tab : List (Str × D)) : Prop :=
  (∃ es n, KDict K w a es n) ∧ ∀ z : Str, match tab.lookup z with
    | some d => ∃ u, PySem.W.nsIn K a z = some (some u) ∧ RpK K u d
    | none => PySem.W.nsIn K a z = some none
inductive TabEs (K : PySem.W.Frag) : List DictEntry → List (Str × D) → Prop
  | nil : TabEs K [] []
  | cons {h : Int} {x : Str} {t : Tok} {u : Value} {d : D} {es : List DictEntry} {tab : List (Str × D)} : RpK K u d → TabEs K es tab → TabEs K (⟨h, .str x t, u⟩ :: es) ((x, d) :: tab)
theorem TabEs.find {es : List DictEntry} {tab : List (Str × D)} (h : TabEs K es tab) (z : Str) : match tab.lookup z with
    | some d => ∃ e, es.find? (·.key.isStr z) = some e ∧ RpK K e.val d
    | none => es.find? (·.key.isStr z) = none := by
  induction h with
  | nil => rfl
  | @cons h x t u d es tab hr _ ih =>
    have hk : (Value.str x t).isStr z = (z == x) := by
      show (x == z) = (z == x)
      rw [Bool.eq_iff_iff, beq_iff_eq, beq_iff_eq]
      exact eq_comm
    rw [List.lookup_cons, List.find?_cons]
    show match (match z == x with | true => some d | false => tab.lookup z) with
      | some d => ∃ e, (match (Value.str x t).isStr z with | true => some (⟨h, .str x t, u⟩ : DictEntry) | false => es.find? (·.key.isStr z)) = some e ∧ RpK K e.val d
      | none => (match (Value.str x t).isStr z with | true => some (⟨h, .str x t, u⟩ : DictEntry) | false => es.find? (·.key.isStr z)) = none
    rw [hk]
    cases z == x with
    | true => exact ⟨_, rfl, hr⟩
    | false => exact ih
theorem TabEs.noRef {es : List DictEntry} {tab : List (Str × D)} (h : TabEs K es tab) : es.any (·.refKey) = false := by
  induction h with
  | nil => rfl
  | cons _ _ ih => rw [List.any_cons, ih]; rfl
theorem KTab.mk {w : World} {a : Addr} {tab : List (Str × D)} {es : Array DictEntry} {n : Nat} (h1 : K.lookup a = some ⟨.type "dict", none, .dict es n, #[]⟩) (h2 : PySem.W.KeysLit w.params es.toList) (h3 : TabEs K es.toList tab) (h4 : (a == sysModules) = false) : KTab K w a tab := by
  refine ⟨⟨es, n, h1, h2, h4⟩, fun z => ?_⟩
  have q := h3.find z
  cases e : tab.lookup z with
  | some d =>
    rw [e] at q
    obtain ⟨en, e1, e2⟩ := q
    refine ⟨en.val, ?_, e2⟩
    unfold PySem.W.nsIn
    rw [h1]
    show (match es.toList.find? (·.key.isStr z) with | some e => some (some e.val) | none => if es.toList.any (·.refKey) then none else some none) = _
    rw [e1]
  | none =>
    rw [e] at q
    show PySem.W.nsIn K a z = some none
    unfold PySem.W.nsIn
    rw [h1]
    show (match es.toList.find? (·.key.isStr z) with | some e => some (some e.val) | none => if es.toList.any (·.refKey) then none else some none) = _
    rw [show es.toList.find? (·.key.isStr z) = none from q, h3.noRef]
    rfl
end
end WS
namespace WS
open PySem PySem.Spec PyProof.Rows L2
def figure (seed at_ m : Int) : Int :=
  let f := (seed % 2147483647 * 48271 + 69621 * at_ * at_ + 7919) % 2147483629
  let g := f * f % 2147483587
  g * (g + 39373) % 2147483563 / 64 % m
def F_draw : Fn := fun ds k => match ds, k with
  | [.deck, .int m], some (cells, at_, sum, st) => if 0 < m ∧ m < 1073741824 ∧ 0 ≤ at_ ∧ at_ < 2 ^ 62 ∧ cells.length ≤ 1000 then
      match cells with
      | [] => some (.int (figure (sum + (at_ + 1)) (at_ + 1) m), some ([], at_ + 1, sum, st))
      | c :: r => if 10 ^ 18 ≤ c then some (.int (c % m), some (c / m :: r, at_ + 1, sum, st)) else some (.int (figure c (at_ + 1) m), some (r, at_ + 1, sum, st))
    else none
  | _, _ => none
/-- the deck's own place, changed -/
theorem Rep.turnDk {K : PySem.W.Frag} {H H' : Hp} {S : Sx} {F : Hp} {cells cells' : List Int} {at_ at' sum : Int} {st : List D} {a c : Addr}
    (r : Rep K [] H S F [] (some (cells, at_, sum, st))) (ea : S.da = some a) (ha : H a = some (.dK [(kCells, .ref c), (kAt, .int at_), (kSum, .int sum)])) (hc : H c = some (.lst (cells.map V.int)))
    (off : ∀ b o, H b = some o → b ≠ a → b ≠ c → H' b = some o) (ha' : H' a = some (.dK [(kCells, .ref c), (kAt, .int at'), (kSum, .int sum)])) (hc' : H' c = some (.lst (cells'.map V.int))) :
    Rep K [] H' S F [] (some (cells', at', sum, st)) := by
  obtain ⟨a2, c2, e1, e2, e3, e4, e5, e6, e7, e8, e9, e10⟩ := r.dka
  rw [ea] at e1; cases e1
  rw [ha] at e2
  have hcc : c = c2 := by
    have := Option.some.inj e2
    injection this with q
    injection q with q1 _
    injection q1 with _ q3
    injection q3
  subst hcc
  refine ⟨fun b o e => ?_, fun b o e => ?_, r.fs, rfl, fun i s e => by simp at e, fun i j d e p h => by simp at h, ⟨a, c, ea, ha', hc', e4, e5, e6, e7, fun ⟨i, d, h, _⟩ => by simp at h, fun ⟨i, d, h, _⟩ => by simp at h, e10.move (Le.refl S) rfl fun b o _ z1 z2 z3 z4 z5 z6 => ⟨off b o z1 z5 z6, z2, z3, fun ⟨i, d, h, _⟩ => by simp at h⟩⟩⟩
  · exact off b o (r.sh b o e) (fun z => by subst z; rw [e4] at e; cases e) (fun z => by subst z; rw [e5] at e; cases e)
  · exact off b o (r.fh b o e) (fun z => by subst z; rw [e6] at e; cases e) (fun z => by subst z; rw [e7] at e; cases e)
theorem cells_dp {K : PySem.W.Frag} {H : Hp} {c : Addr} {ns : List Int} (h : SqL K H c (ns.map V.int)) : Dp K H (.ref c) (.list (ns.map PyData.int)) := by
  refine .lst h ?_
  clear h
  induction ns with
  | nil => exact .nil
  | cons n r ih => exact .cons (.int n) ih
theorem ints_shaped (ns : List Int) : SeqAt.shaped (.list (ns.map PyData.int)) = true := by
  unfold SeqAt.shaped
  rw [Bool.and_eq_true]
  have h1 : ∀ l : List Int, PyData.canLayAll0 (l.map PyData.int) = true := by
    intro l
    induction l with
    | nil => rfl
    | cons n r ih => simp [PyData.canLayAll0, PyData.canLay0, ih]
  have h2 : ∀ l : List Int, PyData.depthAll (l.map PyData.int) ≤ 1 := by
    intro l
    induction l with
    | nil => simp [PyData.depthAll]
    | cons n r ih => simp [PyData.depthAll, PyData.depth]; exact ih
  exact ⟨by simpa [PyData.canLay0] using h1 ns, decide_eq_true (by
    have := h2 ns
    simp only [PyData.depth]
    omega)⟩
theorem ints_eqv (ns : List Int) : PyData.eqv (.list (ns.map PyData.int)) (.list []) = ns.isEmpty := by
  cases ns <;> rfl
theorem seq0 {n : Nat} (h : 0 < n) : seqIndex? 0 n = some 0 := by
  unfold seqIndex?
  simp
  omega
theorem k_ca : ¬ kCells = kAt := by decide +kernel
theorem k_cs : ¬ kCells = kSum := by decide +kernel
theorem k_as : ¬ kAt = kSum := by decide +kernel
section
variable {c : V} {x y : V} {H : Hp} {a : Addr}
theorem dk_cells : valV [(kCells, c), (kAt, x), (kSum, y)] kCells = some c := valV_pos (p := (kCells, c)) rfl
theorem dk_at : valV [(kCells, c), (kAt, x), (kSum, y)] kAt = some x := by
  rw [valV_neg (p := (kCells, c)) k_ca]; exact valV_pos (p := (kAt, x)) rfl
theorem dk_sum : valV [(kCells, c), (kAt, x), (kSum, y)] kSum = some y := by
  rw [valV_neg (p := (kCells, c)) k_cs, valV_neg (p := (kAt, x)) k_as]; exact valV_pos (p := (kSum, y)) rfl
theorem putK_cons {k z : Key} {v x : V} {r : List (Key × V)} : putK ((k, v) :: r) z x = if k = z then (if (r.any fun kv => decide (kv.1 = z)) = true then (k, x) :: (r.map fun kv => if kv.1 = z then (kv.1, x) else kv) else (k, x) :: r) else (k, v) :: putK r z x := by
  unfold putK
  by_cases q : k = z
  · rw [if_pos q]
    simp only [List.any_cons, q, decide_true, Bool.true_or, if_true, List.map_cons]
    split
    · rfl
    · rename_i h
      congr 1
      rw [List.map_congr_left (g := id)]
      · simp
      · intro kv hkv
        rw [if_neg]; rfl
        intro e
        exact h (List.any_eq_true.mpr ⟨kv, hkv, decide_eq_true e⟩)
  · rw [if_neg q]
    simp only [List.any_cons, q, decide_false, Bool.false_or, List.map_cons, if_false]
    split <;> rfl
theorem dk_put {z : V} : putK [(kCells, c), (kAt, x), (kSum, y)] kAt z = [(kCells, c), (kAt, z), (kSum, y)] := by
  rw [putK_cons, if_neg k_ca, putK_cons, if_pos rfl]
  have h : ¬ ([(kSum, y)].any fun kv => decide (kv.1 = kAt)) = true := by
    simp only [List.any_cons, List.any_nil, Bool.or_false, decide_eq_true_eq]
    exact fun e => k_as e.symm
  rw [if_neg h]
theorem dg_cells (h : H a = some (.dK [(kCells, c), (kAt, x), (kSum, y)])) : DGet H a (.str "cells") (some c) := .inl ⟨_, kCells, .inl h, rfl, dk_cells.symm⟩
theorem dg_at (h : H a = some (.dK [(kCells, c), (kAt, x), (kSum, y)])) : DGet H a (.str "at") (some x) := .inl ⟨_, kAt, .inl h, rfl, dk_at.symm⟩
theorem dg_sum (h : H a = some (.dK [(kCells, c), (kAt, x), (kSum, y)])) : DGet H a (.str "sum") (some y) := .inl ⟨_, kSum, .inl h, rfl, dk_sum.symm⟩
theorem dp_at {z : V} (h : H a = some (.dK [(kCells, c), (kAt, x), (kSum, y)])) : DPut H a (.str "at") z (upd H a (.dK [(kCells, c), (kAt, z), (kSum, y)])) := .inl ⟨_, kAt, h, rfl, (by show 3 < sizeLine; rw [sizeLine_eq]; decide), by rw [dk_put]⟩
end
theorem cut63 (ns : List Int) : cutV (ns.map V.int) none (some 63) = (ns.take 63).map V.int := by
  unfold cutV
  rw [HT.sIx_none, show (63 : Int) = ((63 : Nat) : Int) from rfl, HT.sIx_nat, List.drop_zero, Nat.sub_zero, List.map_take, List.length_map]
  by_cases h : 63 ≤ ns.length
  · rw [Nat.min_eq_left h]
  · rw [Nat.min_eq_right (by omega)]
    rw [List.take_of_length_le (by simp), List.take_of_length_le (by simp; omega)]
theorem dk_merge {c x y : V} : mergeK [] [(kCells, c), (kAt, x), (kSum, y)] = [(kCells, c), (kAt, x), (kSum, y)] := by
  have n1 : putK ([] : List (Key × V)) kCells c = [(kCells, c)] := rfl
  have n2 : putK [(kCells, c)] kAt x = [(kCells, c), (kAt, x)] := by rw [putK_cons, if_neg k_ca]; rfl
  have n3 : putK [(kCells, c), (kAt, x)] kSum y = [(kCells, c), (kAt, x), (kSum, y)] := by rw [putK_cons, if_neg k_cs, putK_cons, if_neg k_as]; rfl
  show putK (putK (putK [] kCells c) kAt x) kSum y = _
  rw [n1, n2, n3]
/-- the deck is made -/
theorem Rep.newDk {K : PySem.W.Frag} {H H' : Hp} {S : Sx} {F : Hp} {cells : List Int} {at_ sum : Int} {a c : Addr}
    (r : Rep K [] H S F [] none) (g : Sub H H') (na : H a = none) (nc : H c = none) (ha : H' a = some (.dK [(kCells, .ref c), (kAt, .int at_), (kSum, .int sum)])) (hc : H' c = some (.lst (cells.map V.int))) :
    Rep K [] H' ⟨S.hp, some a, []⟩ F [] (some (cells, at_, sum, [])) :=
  ⟨r.sh.trans g, r.fh.trans g, r.fs, rfl, fun i s e => by simp at e, fun i j d e p h => by simp at h, ⟨a, c, rfl, ha, hc, r.sh.none na, r.sh.none nc, r.fh.none na, r.fh.none nc, fun ⟨i, d, h, _⟩ => by simp at h, fun ⟨i, d, h, _⟩ => by simp at h, ⟨rfl, List.nodup_nil, fun n p d h => by simp at h⟩⟩⟩
end WS
namespace WS
open PySem PySem.Spec PyProof.Rows L2
variable {W : WX}
section
variable {X : Cx} {e v : Expr} {f fv : E} {i : Nat} {x : Str} {ks : List Key} {fs : EL} {keys : List (Option Expr)} {vals : List Expr} {pos p1 p2 p3 : Pos}
theorem tsv_ownD {trs : List (TE × TE)} {σ : L2.St} {H : Hp} {D' : Ends} (h2 : ∀ (σ : L2.St) (H : Hp) (Q : List (V × V) → Hp → Prop), TAv X.K fs σ H (fun vs H' => Q ((ks.map kV).zip vs) H') → tPairs trs σ H Q)
    (hnd : ks.Nodup) (h15 : ks.length ≤ 15) (h : TSv X.K W (sOwnD i ks fs) D' σ H) : tAsg (tDisp trs) (gName i) D' σ H := by
  obtain ⟨S, F, ρ, dk, o, ρ', dk', R, e, q⟩ := h
  unfold sOwnD at e
  cases ea : fs ρ dk with
  | none => rw [ea] at e; cases e
  | some x =>
    obtain ⟨ds, ρ1, k1⟩ := x
    rw [ea] at e
    simp only [Option.bind_some] at e
    split at e
    case isFalse => cases e
    rename_i hlen
    cases e
    refine disp_run h2 hnd h15 R ea hlen fun p H2 S2 kvs hp nF l2 R2 e1 rv => ?_
    exact q _ _ S2 l2 (R2.ownF nF ⟨kvs, upd_same, e1, rv⟩)
theorem s_ownD (h : DPs X p2 keys vals ks fs) (hall : keys.all (·.isSome) = true) (hl : keys.length = vals.length) (h0 : keys ≠ []) (h15 : keys.length ≤ 15) (hkl : ks.length ≤ 15) (hnd : ks.Nodup) (hN : X.N.Nodup) (hi : X.N[i]? = some x) (hx : Loc X.env.scope x) (hf : X.fn x = true ∨ X.env.scope.names.lookup x = some .local)
    (hs : swapsWithSole [.Name x p1] (.Dict keys vals p2) pos.line X.env = pure false) (hw : swappedStores [.Name x p1] (.Dict keys vals p2) X.env = pure none) (h1 : (assignEach [.Name x p1] X.env).map (·.2) = [assign (.Name x p1) X.env]) :
    PS X (.Assign [.Name x p1] (.Dict keys vals p2) pos) (TSv X.K W (sOwnD i ks fs)) := by
  obtain ⟨trs, h1', h2⟩ := h
  exact (ps_asg (pe_disp h1' hall hl h0 h15) (pg_name hN hi hx hf) hs hw h1).imp fun _ _ _ h => tsv_ownD h2 hnd hkl h
def sOwnD0 (i : Nat) : SS := fun ρ k => some (.nx, ρ.set i (.own (.dct [] [])), k)
end
structure Cw (P : Program) (w : World) (K : PySem.W.Frag) (mg : Str → Option Value) (base : Heap) (k : Nat) (x : Str) (n : Nat) (F : Fn) : Prop where
  ex : ∃ (f : Addr) (fd : FuncData) (ps : List Str), FnG P w K mg base CX0 k f fd ps (spS K n F) ∧ mg x = some (.ref f) ∧ PySem.W.keepIn K (.ref f) = true ∧ Binds K fd ps []
/-- a def stands under its name -/
def Df (K : PySem.W.Frag) (mg : Str → Option Value) (x : Str) (st : Stmt) : Prop := ∃ (f : Addr) (fd : FuncData), Fun K x x st f fd ∧ mg x = some (.ref f)
section
variable {P : Program} {w : World} {K : PySem.W.Frag} {mg : Str → Option Value} {base : Heap} {k : Nat}
theorem Cw.up {j k n : Nat} {x : Str} {F : Fn} (c : Cw P w K mg base j x n F) (h : j ≤ k) : Cw P w K mg base k x n F := by
  obtain ⟨f, fd, ps, a, b⟩ := c.ex
  exact ⟨f, fd, ps, a.up h, b⟩
theorem cl_mk {x : Str} {st : Stmt} {N ps : List Str} (body : SS) (n m : Nat) (D : Df K mg x st) (SC : FnScope N ps (defScope st)) (hps : ps.length = n) (hm : N.length = m) (hN : n ≤ m)
    (hbind : ∀ (kV doc pm : Value) (an : Option Addr) (cdv ct : Value) (us : List Value), us.length = ps.length → bindArgs (PySem.W.fnOf x x (defArgs st) (defBody st) (defScope st) .none kV doc pm an cdv ct) ⟨us, []⟩ = pure (ps.zip us))
    (hb : ∀ (f : Addr) (cdv : Value) (A : Around) (outer : List Env) (s : Shared) (H : Hp) (E : XK), A.guards = some [] → Room k (A.deeper (envOfC x (defScope st) s.heap.objs.size f cdv)) →
      PSs (cxOf CX0 P w K mg base N x (defScope st) f cdv A outer s H E).nox (defBody st) (TSv K W0 body)) : Cw P w K mg base (k + 1) x n (runS m body) := by
  subst hm
  obtain ⟨f, fd, Fu, m⟩ := D
  exact ⟨f, fd, ps, fnS n hps hN Fu SC (hb f), m, Fu.kp, Fu.binds hbind⟩
end
section
variable {X : Cx} {x : Str} {p pos : Pos} {a : Expr} {es : List Expr} {fs : EL} {n j : Nat} {F : Fn}
theorem d_callC (c : Cw X.prog X.w X.K X.mg X.base j x n F) (hgu : X.A.guards = some []) (hr : Room j X.A) (hg : Gl X x) (ha : PA X (a :: es) (TAv X.K fs)) (hdb : (x == ("__debug__" : Str)) = false) (he : starEach (a :: es) X.env = (false, eval a X.env) :: starEach es X.env) (hpl : (backTo pos (starEach es X.env)).any (·.1) = false) :
    PE X (.Call (.Name x p) (a :: es) [] pos) (TEv X.K (eCallF n F fs)) := by
  obtain ⟨f, fd, ps, G, m, hk, hb⟩ := c.ex
  exact d_call G hgu hr hg m hk hb ha hdb he hpl
theorem d_callC0 (c : Cw X.prog X.w X.K X.mg X.base j x n F) (hgu : X.A.guards = some []) (hr : Room j X.A) (hg : Gl X x) (hdb : (x == ("__debug__" : Str)) = false) :
    PE X (.Call (.Name x p) [] [] pos) (TEv X.K (eCallF n F aNil)) := by
  obtain ⟨f, fd, ps, G, m, hk, hb⟩ := c.ex
  exact d_call0 G hgu hr hg m hk hb hdb
/-- a module's table -/
def Gt (K : PySem.W.Frag) (w : World) (mg : Str → Option Value) (x : Str) (tab : List (Str × D)) : Prop := ∃ a, mg x = some (.ref a) ∧ KTab K w a tab
variable {tab : List (Str × D)} {b : Expr} {fb : E}
end
end WS
namespace WS
open PySem PySem.Spec PyProof.Rows L2
theorem hu100_of {A : Around} {k : Nat} (hr : Room k A) : A.units + 100 < cLine := Nat.lt_of_le_of_lt (by omega) hr.un
theorem hu65_of {A : Around} {k : Nat} (hr : Room k A) : A.units + 65 < cLine := Nat.lt_of_le_of_lt (by omega) hr.un
end WS
namespace WS
open PySem PySem.Spec PyProof.Rows L2
theorem gl_of {X : Cx} {x : Str} (h : X.env.kindOf x = some .globalImplicit) : Gl X x := h
end WS
namespace WS
open PySem PySem.Spec PyProof.Rows L2
theorem nrfl {α : Sort _} {a b : α} (h : a = b) : a = b := h
structure Tg1 {α β : Type} (f : α → β) where
structure Tg2 {α : Type} (t f : α) where
def _root_.Option.bnd {α β : Type} (a : Option α) (f : α → Option β) (_ : Tg1 f := ⟨⟩) : Option β := a.bind f
def _root_.Option.mpd {α β : Type} (a : Option α) (f : α → β) (_ : Tg1 f := ⟨⟩) : Option β := a.map f
theorem bnd_some {α β : Type} {x : α} {f : α → Option β} {t : Tg1 f} : (some x).bnd f t = f x := nrfl rfl
theorem bnd_none {α β : Type} {f : α → Option β} {t : Tg1 f} : (none : Option α).bnd f t = none := nrfl rfl
theorem mpd_some {α β : Type} {x : α} {f : α → β} {t : Tg1 f} : (some x).mpd f t = some (f x) := nrfl rfl
theorem mpd_none {α β : Type} {f : α → β} {t : Tg1 f} : (none : Option α).mpd f t = none := nrfl rfl
/-- by a truth -/
def bm {α : Type} (d : D) (t f : Option α) (_ : Tg2 t f := ⟨⟩) : Option α := match d with
  | .bl true => t
  | .bl false => f
  | _ => none
theorem bm_t {α : Type} {t f : Option α} {q : Tg2 t f} : bm (.bl true) t f q = t := nrfl rfl
theorem bm_f {α : Type} {t f : Option α} {q : Tg2 t f} : bm (.bl false) t f q = f := nrfl rfl
theorem bm_b {α : Type} {c : Bool} {t f : Option α} {q : Tg2 t f} : bm (.bl c) t f q = if c = true then t else f := by cases c <;> rfl
/-- behind a statement -/
def om (o : Out × List Sl × Dk) (f : List Sl → Dk → Option (Out × List Sl × Dk)) (_ : Tg1 f := ⟨⟩) : Option (Out × List Sl × Dk) := match o.1 with
  | .nx => f o.2.1 o.2.2
  | _ => some o
section
variable {ρ : List Sl} {k : Dk} {f : List Sl → Dk → Option (Out × List Sl × Dk)} {q : Tg1 f} {d : D}
theorem om_nx : om (.nx, ρ, k) f q = f ρ k := nrfl rfl
theorem om_rt : om (.rt d, ρ, k) f q = some (.rt d, ρ, k) := nrfl rfl
theorem om_bk : om (.bk, ρ, k) f q = some (.bk, ρ, k) := nrfl rfl
theorem om_ct : om (.ct, ρ, k) f q = some (.ct, ρ, k) := nrfl rfl
end
def fin (o : Out × List Sl × Dk) : Option (D × Dk) := match o.1 with
  | .rt d => some (d, o.2.2)
  | .nx => some (.non, o.2.2)
  | _ => none
theorem fin_nx {ρ : List Sl} {k : Dk} : fin (.nx, ρ, k) = some (.non, k) := nrfl rfl
theorem fin_rt {d : D} {ρ : List Sl} {k : Dk} : fin (.rt d, ρ, k) = some (d, k) := nrfl rfl
def st0 (n : Nat) (ds : List D) : List Sl := ds.map Sl.val ++ List.replicate (n - ds.length) Sl.no
section
variable {ρ : List Sl} {k : Dk} {a b c : E} {fs : EL} {g : D → D → Option D} {u : D → Option D} {gs : List D → Option D} {d x y z : D} {s t : SS} {n i : Nat} {ds : List D} {F : Fn} {tg : Tg}
theorem ap_run : runS n s ds k = (s (st0 n ds) k).bind fin := nrfl rfl
theorem ap_C : eC d ρ k = some (d, ρ, k) := nrfl rfl
theorem ap_Op : eOp g a b ρ k = (a ρ k).bnd fun x => (b x.2.1 x.2.2).bnd fun y => (g x.1 y.1).mpd fun z => (z, y.2.1, y.2.2) := nrfl rfl
theorem ap_Un : eUn u a ρ k = (a ρ k).bnd fun x => (u x.1).mpd fun z => (z, x.2.1, x.2.2) := nrfl rfl
theorem ap_nil : aNil ρ k = some ([], ρ, k) := nrfl rfl
theorem ap_cons : aCons a fs ρ k = (a ρ k).bnd fun x => (fs x.2.1 x.2.2).mpd fun y => (x.1 :: y.1, y.2.1, y.2.2) := nrfl rfl
theorem ap_App : eApp gs fs ρ k = (fs ρ k).bnd fun x => (gs x.1).mpd fun z => (z, x.2.1, x.2.2) := nrfl rfl
theorem ap_And : eAnd a b ρ k = (a ρ k).bnd fun x => bm x.1 (b x.2.1 x.2.2) (some (.bl false, x.2.1, x.2.2)) := nrfl rfl
theorem ap_Or : eOr a b ρ k = (a ρ k).bnd fun x => bm x.1 (some (.bl true, x.2.1, x.2.2)) (b x.2.1 x.2.2) := by
  unfold eOr bm
  congr
  funext x
  obtain ⟨d, r⟩ := x
  cases d <;> try rfl
  rename_i b
  cases b <;> rfl
theorem ap_Not : gNot (.bl false) = some (.bl true) := nrfl rfl
theorem ap_Not' : gNot (.bl true) = some (.bl false) := nrfl rfl
theorem ap_NotB {c : Bool} : gNot (.bl c) = some (.bl (!c)) := nrfl rfl
theorem ap_If : eIf c a b ρ k = (c ρ k).bnd fun x => bm x.1 (a x.2.1 x.2.2) (b x.2.1 x.2.2) := nrfl rfl
theorem ap_sNil : sNil ρ k = some (.nx, ρ, k) := nrfl rfl
theorem ap_sSeq : sSeq s t ρ k = (s ρ k).bnd fun x => om x t := nrfl rfl
theorem ap_sRet : sRet a ρ k = (a ρ k).bnd fun x => some (.rt x.1, x.2.1, x.2.2) := nrfl rfl
theorem ap_sDrop : sDrop a ρ k = (a ρ k).bnd fun x => some (.nx, x.2.1, x.2.2) := nrfl rfl
theorem ap_sIf : sIf c s t ρ k = (c ρ k).bnd fun x => bm x.1 (s x.2.1 x.2.2) (t x.2.1 x.2.2) := nrfl rfl
theorem ap_sAsg : sAsg tg a ρ k = (a ρ k).bnd fun x => (tg x.1 x.2.1).bnd fun ρ' => some (.nx, ρ', x.2.2) := nrfl rfl
theorem ap_gSet : gSet i d ρ = some (ρ.set i (.val d)) := nrfl rfl
theorem ap_call : eCallF n F fs ρ k = (fs ρ k).bnd fun x => if x.1.length = n then (F x.1 x.2.2).mpd fun y => (y.1, x.2.1, y.2) else none := nrfl rfl
theorem ap_chain {g' : D → D → Option D} : eChain g g' a b c ρ k = (a ρ k).bnd fun x => (b x.2.1 x.2.2).bnd fun y => (g x.1 y.1).bnd fun t => bm t ((c y.2.1 y.2.2).bnd fun z => (g' y.1 z.1).mpd fun u => (u, z.2.1, z.2.2)) (some (.bl false, y.2.1, y.2.2)) := nrfl rfl
theorem ap_pair {g1 g2 : Tg} : gPair g1 g2 (.tup [x, y]) ρ = (g1 x ρ).bnd fun ρ1 => g2 y ρ1 := nrfl rfl
theorem st0_c {n : Nat} {x : D} {ds : List D} : st0 (n + 1) (x :: ds) = .val x :: st0 n ds := by
  unfold st0
  rw [List.map_cons, List.length_cons, Nat.add_sub_add_right]; rfl
theorem st0_n {n : Nat} : st0 (n + 1) [] = .no :: st0 n [] := nrfl rfl
theorem st0_0 : st0 0 [] = [] := nrfl rfl
theorem vv_0 : eVar 0 (.val d :: ρ) k = some (d, .val d :: ρ, k) := nrfl rfl
theorem vo_0 : eVar 0 (.own d :: ρ) k = some (d, .val d :: ρ, k) := nrfl rfl
theorem ix_0 {s : Sl} : (s :: ρ)[0]? = some s := nrfl rfl
theorem sx_0 {s v : Sl} : (s :: ρ).set 0 v = v :: ρ := nrfl rfl
theorem vv_1 {s0 : Sl} : eVar 1 (s0 :: .val d :: ρ) k = some (d, s0 :: .val d :: ρ, k) := nrfl rfl
theorem vo_1 {s0 : Sl} : eVar 1 (s0 :: .own d :: ρ) k = some (d, s0 :: .val d :: ρ, k) := nrfl rfl
theorem ix_1 {s : Sl} {s0 : Sl} : (s0 :: s :: ρ)[1]? = some s := nrfl rfl
theorem sx_1 {s v : Sl} {s0 : Sl} : (s0 :: s :: ρ).set 1 v = s0 :: v :: ρ := nrfl rfl
theorem vv_2 {s0 s1 : Sl} : eVar 2 (s0 :: s1 :: .val d :: ρ) k = some (d, s0 :: s1 :: .val d :: ρ, k) := nrfl rfl
theorem vo_2 {s0 s1 : Sl} : eVar 2 (s0 :: s1 :: .own d :: ρ) k = some (d, s0 :: s1 :: .val d :: ρ, k) := nrfl rfl
theorem ix_2 {s : Sl} {s0 s1 : Sl} : (s0 :: s1 :: s :: ρ)[2]? = some s := nrfl rfl
theorem sx_2 {s v : Sl} {s0 s1 : Sl} : (s0 :: s1 :: s :: ρ).set 2 v = s0 :: s1 :: v :: ρ := nrfl rfl
theorem vv_3 {s0 s1 s2 : Sl} : eVar 3 (s0 :: s1 :: s2 :: .val d :: ρ) k = some (d, s0 :: s1 :: s2 :: .val d :: ρ, k) := nrfl rfl
theorem vo_3 {s0 s1 s2 : Sl} : eVar 3 (s0 :: s1 :: s2 :: .own d :: ρ) k = some (d, s0 :: s1 :: s2 :: .val d :: ρ, k) := nrfl rfl
theorem ix_3 {s : Sl} {s0 s1 s2 : Sl} : (s0 :: s1 :: s2 :: s :: ρ)[3]? = some s := nrfl rfl
theorem sx_3 {s v : Sl} {s0 s1 s2 : Sl} : (s0 :: s1 :: s2 :: s :: ρ).set 3 v = s0 :: s1 :: s2 :: v :: ρ := nrfl rfl
theorem vv_4 {s0 s1 s2 s3 : Sl} : eVar 4 (s0 :: s1 :: s2 :: s3 :: .val d :: ρ) k = some (d, s0 :: s1 :: s2 :: s3 :: .val d :: ρ, k) := nrfl rfl
theorem vo_4 {s0 s1 s2 s3 : Sl} : eVar 4 (s0 :: s1 :: s2 :: s3 :: .own d :: ρ) k = some (d, s0 :: s1 :: s2 :: s3 :: .val d :: ρ, k) := nrfl rfl
theorem ix_4 {s : Sl} {s0 s1 s2 s3 : Sl} : (s0 :: s1 :: s2 :: s3 :: s :: ρ)[4]? = some s := nrfl rfl
theorem sx_4 {s v : Sl} {s0 s1 s2 s3 : Sl} : (s0 :: s1 :: s2 :: s3 :: s :: ρ).set 4 v = s0 :: s1 :: s2 :: s3 :: v :: ρ := nrfl rfl
theorem vv_5 {s0 s1 s2 s3 s4 : Sl} : eVar 5 (s0 :: s1 :: s2 :: s3 :: s4 :: .val d :: ρ) k = some (d, s0 :: s1 :: s2 :: s3 :: s4 :: .val d :: ρ, k) := nrfl rfl
theorem vo_5 {s0 s1 s2 s3 s4 : Sl} : eVar 5 (s0 :: s1 :: s2 :: s3 :: s4 :: .own d :: ρ) k = some (d, s0 :: s1 :: s2 :: s3 :: s4 :: .val d :: ρ, k) := nrfl rfl
theorem ix_5 {s : Sl} {s0 s1 s2 s3 s4 : Sl} : (s0 :: s1 :: s2 :: s3 :: s4 :: s :: ρ)[5]? = some s := nrfl rfl
theorem sx_5 {s v : Sl} {s0 s1 s2 s3 s4 : Sl} : (s0 :: s1 :: s2 :: s3 :: s4 :: s :: ρ).set 5 v = s0 :: s1 :: s2 :: s3 :: s4 :: v :: ρ := nrfl rfl
theorem vv_6 {s0 s1 s2 s3 s4 s5 : Sl} : eVar 6 (s0 :: s1 :: s2 :: s3 :: s4 :: s5 :: .val d :: ρ) k = some (d, s0 :: s1 :: s2 :: s3 :: s4 :: s5 :: .val d :: ρ, k) := nrfl rfl
theorem vo_6 {s0 s1 s2 s3 s4 s5 : Sl} : eVar 6 (s0 :: s1 :: s2 :: s3 :: s4 :: s5 :: .own d :: ρ) k = some (d, s0 :: s1 :: s2 :: s3 :: s4 :: s5 :: .val d :: ρ, k) := nrfl rfl
theorem ix_6 {s : Sl} {s0 s1 s2 s3 s4 s5 : Sl} : (s0 :: s1 :: s2 :: s3 :: s4 :: s5 :: s :: ρ)[6]? = some s := nrfl rfl
theorem sx_6 {s v : Sl} {s0 s1 s2 s3 s4 s5 : Sl} : (s0 :: s1 :: s2 :: s3 :: s4 :: s5 :: s :: ρ).set 6 v = s0 :: s1 :: s2 :: s3 :: s4 :: s5 :: v :: ρ := nrfl rfl
theorem vv_7 {s0 s1 s2 s3 s4 s5 s6 : Sl} : eVar 7 (s0 :: s1 :: s2 :: s3 :: s4 :: s5 :: s6 :: .val d :: ρ) k = some (d, s0 :: s1 :: s2 :: s3 :: s4 :: s5 :: s6 :: .val d :: ρ, k) := nrfl rfl
theorem vo_7 {s0 s1 s2 s3 s4 s5 s6 : Sl} : eVar 7 (s0 :: s1 :: s2 :: s3 :: s4 :: s5 :: s6 :: .own d :: ρ) k = some (d, s0 :: s1 :: s2 :: s3 :: s4 :: s5 :: s6 :: .val d :: ρ, k) := nrfl rfl
theorem ix_7 {s : Sl} {s0 s1 s2 s3 s4 s5 s6 : Sl} : (s0 :: s1 :: s2 :: s3 :: s4 :: s5 :: s6 :: s :: ρ)[7]? = some s := nrfl rfl
theorem sx_7 {s v : Sl} {s0 s1 s2 s3 s4 s5 s6 : Sl} : (s0 :: s1 :: s2 :: s3 :: s4 :: s5 :: s6 :: s :: ρ).set 7 v = s0 :: s1 :: s2 :: s3 :: s4 :: s5 :: s6 :: v :: ρ := nrfl rfl
theorem vv_8 {s0 s1 s2 s3 s4 s5 s6 s7 : Sl} : eVar 8 (s0 :: s1 :: s2 :: s3 :: s4 :: s5 :: s6 :: s7 :: .val d :: ρ) k = some (d, s0 :: s1 :: s2 :: s3 :: s4 :: s5 :: s6 :: s7 :: .val d :: ρ, k) := nrfl rfl
theorem vo_8 {s0 s1 s2 s3 s4 s5 s6 s7 : Sl} : eVar 8 (s0 :: s1 :: s2 :: s3 :: s4 :: s5 :: s6 :: s7 :: .own d :: ρ) k = some (d, s0 :: s1 :: s2 :: s3 :: s4 :: s5 :: s6 :: s7 :: .val d :: ρ, k) := nrfl rfl
theorem ix_8 {s : Sl} {s0 s1 s2 s3 s4 s5 s6 s7 : Sl} : (s0 :: s1 :: s2 :: s3 :: s4 :: s5 :: s6 :: s7 :: s :: ρ)[8]? = some s := nrfl rfl
theorem sx_8 {s v : Sl} {s0 s1 s2 s3 s4 s5 s6 s7 : Sl} : (s0 :: s1 :: s2 :: s3 :: s4 :: s5 :: s6 :: s7 :: s :: ρ).set 8 v = s0 :: s1 :: s2 :: s3 :: s4 :: s5 :: s6 :: s7 :: v :: ρ := nrfl rfl
theorem vv_9 {s0 s1 s2 s3 s4 s5 s6 s7 s8 : Sl} : eVar 9 (s0 :: s1 :: s2 :: s3 :: s4 :: s5 :: s6 :: s7 :: s8 :: .val d :: ρ) k = some (d, s0 :: s1 :: s2 :: s3 :: s4 :: s5 :: s6 :: s7 :: s8 :: .val d :: ρ, k) := nrfl rfl
theorem vo_9 {s0 s1 s2 s3 s4 s5 s6 s7 s8 : Sl} : eVar 9 (s0 :: s1 :: s2 :: s3 :: s4 :: s5 :: s6 :: s7 :: s8 :: .own d :: ρ) k = some (d, s0 :: s1 :: s2 :: s3 :: s4 :: s5 :: s6 :: s7 :: s8 :: .val d :: ρ, k) := nrfl rfl
theorem ix_9 {s : Sl} {s0 s1 s2 s3 s4 s5 s6 s7 s8 : Sl} : (s0 :: s1 :: s2 :: s3 :: s4 :: s5 :: s6 :: s7 :: s8 :: s :: ρ)[9]? = some s := nrfl rfl
theorem sx_9 {s v : Sl} {s0 s1 s2 s3 s4 s5 s6 s7 s8 : Sl} : (s0 :: s1 :: s2 :: s3 :: s4 :: s5 :: s6 :: s7 :: s8 :: s :: ρ).set 9 v = s0 :: s1 :: s2 :: s3 :: s4 :: s5 :: s6 :: s7 :: s8 :: v :: ρ := nrfl rfl
theorem vv_10 {s0 s1 s2 s3 s4 s5 s6 s7 s8 s9 : Sl} : eVar 10 (s0 :: s1 :: s2 :: s3 :: s4 :: s5 :: s6 :: s7 :: s8 :: s9 :: .val d :: ρ) k = some (d, s0 :: s1 :: s2 :: s3 :: s4 :: s5 :: s6 :: s7 :: s8 :: s9 :: .val d :: ρ, k) := nrfl rfl
theorem vo_10 {s0 s1 s2 s3 s4 s5 s6 s7 s8 s9 : Sl} : eVar 10 (s0 :: s1 :: s2 :: s3 :: s4 :: s5 :: s6 :: s7 :: s8 :: s9 :: .own d :: ρ) k = some (d, s0 :: s1 :: s2 :: s3 :: s4 :: s5 :: s6 :: s7 :: s8 :: s9 :: .val d :: ρ, k) := nrfl rfl
theorem ix_10 {s : Sl} {s0 s1 s2 s3 s4 s5 s6 s7 s8 s9 : Sl} : (s0 :: s1 :: s2 :: s3 :: s4 :: s5 :: s6 :: s7 :: s8 :: s9 :: s :: ρ)[10]? = some s := nrfl rfl
theorem sx_10 {s v : Sl} {s0 s1 s2 s3 s4 s5 s6 s7 s8 s9 : Sl} : (s0 :: s1 :: s2 :: s3 :: s4 :: s5 :: s6 :: s7 :: s8 :: s9 :: s :: ρ).set 10 v = s0 :: s1 :: s2 :: s3 :: s4 :: s5 :: s6 :: s7 :: s8 :: s9 :: v :: ρ := nrfl rfl
theorem vv_11 {s0 s1 s2 s3 s4 s5 s6 s7 s8 s9 s10 : Sl} : eVar 11 (s0 :: s1 :: s2 :: s3 :: s4 :: s5 :: s6 :: s7 :: s8 :: s9 :: s10 :: .val d :: ρ) k = some (d, s0 :: s1 :: s2 :: s3 :: s4 :: s5 :: s6 :: s7 :: s8 :: s9 :: s10 :: .val d :: ρ, k) := nrfl rfl
theorem vo_11 {s0 s1 s2 s3 s4 s5 s6 s7 s8 s9 s10 : Sl} : eVar 11 (s0 :: s1 :: s2 :: s3 :: s4 :: s5 :: s6 :: s7 :: s8 :: s9 :: s10 :: .own d :: ρ) k = some (d, s0 :: s1 :: s2 :: s3 :: s4 :: s5 :: s6 :: s7 :: s8 :: s9 :: s10 :: .val d :: ρ, k) := nrfl rfl
theorem ix_11 {s : Sl} {s0 s1 s2 s3 s4 s5 s6 s7 s8 s9 s10 : Sl} : (s0 :: s1 :: s2 :: s3 :: s4 :: s5 :: s6 :: s7 :: s8 :: s9 :: s10 :: s :: ρ)[11]? = some s := nrfl rfl
theorem sx_11 {s v : Sl} {s0 s1 s2 s3 s4 s5 s6 s7 s8 s9 s10 : Sl} : (s0 :: s1 :: s2 :: s3 :: s4 :: s5 :: s6 :: s7 :: s8 :: s9 :: s10 :: s :: ρ).set 11 v = s0 :: s1 :: s2 :: s3 :: s4 :: s5 :: s6 :: s7 :: s8 :: s9 :: s10 :: v :: ρ := nrfl rfl
theorem vv_12 {s0 s1 s2 s3 s4 s5 s6 s7 s8 s9 s10 s11 : Sl} : eVar 12 (s0 :: s1 :: s2 :: s3 :: s4 :: s5 :: s6 :: s7 :: s8 :: s9 :: s10 :: s11 :: .val d :: ρ) k = some (d, s0 :: s1 :: s2 :: s3 :: s4 :: s5 :: s6 :: s7 :: s8 :: s9 :: s10 :: s11 :: .val d :: ρ, k) := nrfl rfl
theorem vo_12 {s0 s1 s2 s3 s4 s5 s6 s7 s8 s9 s10 s11 : Sl} : eVar 12 (s0 :: s1 :: s2 :: s3 :: s4 :: s5 :: s6 :: s7 :: s8 :: s9 :: s10 :: s11 :: .own d :: ρ) k = some (d, s0 :: s1 :: s2 :: s3 :: s4 :: s5 :: s6 :: s7 :: s8 :: s9 :: s10 :: s11 :: .val d :: ρ, k) := nrfl rfl
theorem ix_12 {s : Sl} {s0 s1 s2 s3 s4 s5 s6 s7 s8 s9 s10 s11 : Sl} : (s0 :: s1 :: s2 :: s3 :: s4 :: s5 :: s6 :: s7 :: s8 :: s9 :: s10 :: s11 :: s :: ρ)[12]? = some s := nrfl rfl
theorem sx_12 {s v : Sl} {s0 s1 s2 s3 s4 s5 s6 s7 s8 s9 s10 s11 : Sl} : (s0 :: s1 :: s2 :: s3 :: s4 :: s5 :: s6 :: s7 :: s8 :: s9 :: s10 :: s11 :: s :: ρ).set 12 v = s0 :: s1 :: s2 :: s3 :: s4 :: s5 :: s6 :: s7 :: s8 :: s9 :: s10 :: s11 :: v :: ρ := nrfl rfl
theorem vv_13 {s0 s1 s2 s3 s4 s5 s6 s7 s8 s9 s10 s11 s12 : Sl} : eVar 13 (s0 :: s1 :: s2 :: s3 :: s4 :: s5 :: s6 :: s7 :: s8 :: s9 :: s10 :: s11 :: s12 :: .val d :: ρ) k = some (d, s0 :: s1 :: s2 :: s3 :: s4 :: s5 :: s6 :: s7 :: s8 :: s9 :: s10 :: s11 :: s12 :: .val d :: ρ, k) := nrfl rfl
theorem vo_13 {s0 s1 s2 s3 s4 s5 s6 s7 s8 s9 s10 s11 s12 : Sl} : eVar 13 (s0 :: s1 :: s2 :: s3 :: s4 :: s5 :: s6 :: s7 :: s8 :: s9 :: s10 :: s11 :: s12 :: .own d :: ρ) k = some (d, s0 :: s1 :: s2 :: s3 :: s4 :: s5 :: s6 :: s7 :: s8 :: s9 :: s10 :: s11 :: s12 :: .val d :: ρ, k) := nrfl rfl
theorem ix_13 {s : Sl} {s0 s1 s2 s3 s4 s5 s6 s7 s8 s9 s10 s11 s12 : Sl} : (s0 :: s1 :: s2 :: s3 :: s4 :: s5 :: s6 :: s7 :: s8 :: s9 :: s10 :: s11 :: s12 :: s :: ρ)[13]? = some s := nrfl rfl
theorem sx_13 {s v : Sl} {s0 s1 s2 s3 s4 s5 s6 s7 s8 s9 s10 s11 s12 : Sl} : (s0 :: s1 :: s2 :: s3 :: s4 :: s5 :: s6 :: s7 :: s8 :: s9 :: s10 :: s11 :: s12 :: s :: ρ).set 13 v = s0 :: s1 :: s2 :: s3 :: s4 :: s5 :: s6 :: s7 :: s8 :: s9 :: s10 :: s11 :: s12 :: v :: ρ := nrfl rfl
theorem vv_14 {s0 s1 s2 s3 s4 s5 s6 s7 s8 s9 s10 s11 s12 s13 : Sl} : eVar 14 (s0 :: s1 :: s2 :: s3 :: s4 :: s5 :: s6 :: s7 :: s8 :: s9 :: s10 :: s11 :: s12 :: s13 :: .val d :: ρ) k = some (d, s0 :: s1 :: s2 :: s3 :: s4 :: s5 :: s6 :: s7 :: s8 :: s9 :: s10 :: s11 :: s12 :: s13 :: .val d :: ρ, k) := nrfl rfl
theorem vo_14 {s0 s1 s2 s3 s4 s5 s6 s7 s8 s9 s10 s11 s12 s13 : Sl} : eVar 14 (s0 :: s1 :: s2 :: s3 :: s4 :: s5 :: s6 :: s7 :: s8 :: s9 :: s10 :: s11 :: s12 :: s13 :: .own d :: ρ) k = some (d, s0 :: s1 :: s2 :: s3 :: s4 :: s5 :: s6 :: s7 :: s8 :: s9 :: s10 :: s11 :: s12 :: s13 :: .val d :: ρ, k) := nrfl rfl
theorem ix_14 {s : Sl} {s0 s1 s2 s3 s4 s5 s6 s7 s8 s9 s10 s11 s12 s13 : Sl} : (s0 :: s1 :: s2 :: s3 :: s4 :: s5 :: s6 :: s7 :: s8 :: s9 :: s10 :: s11 :: s12 :: s13 :: s :: ρ)[14]? = some s := nrfl rfl
theorem sx_14 {s v : Sl} {s0 s1 s2 s3 s4 s5 s6 s7 s8 s9 s10 s11 s12 s13 : Sl} : (s0 :: s1 :: s2 :: s3 :: s4 :: s5 :: s6 :: s7 :: s8 :: s9 :: s10 :: s11 :: s12 :: s13 :: s :: ρ).set 14 v = s0 :: s1 :: s2 :: s3 :: s4 :: s5 :: s6 :: s7 :: s8 :: s9 :: s10 :: s11 :: s12 :: s13 :: v :: ρ := nrfl rfl
theorem vv_15 {s0 s1 s2 s3 s4 s5 s6 s7 s8 s9 s10 s11 s12 s13 s14 : Sl} : eVar 15 (s0 :: s1 :: s2 :: s3 :: s4 :: s5 :: s6 :: s7 :: s8 :: s9 :: s10 :: s11 :: s12 :: s13 :: s14 :: .val d :: ρ) k = some (d, s0 :: s1 :: s2 :: s3 :: s4 :: s5 :: s6 :: s7 :: s8 :: s9 :: s10 :: s11 :: s12 :: s13 :: s14 :: .val d :: ρ, k) := nrfl rfl
theorem vo_15 {s0 s1 s2 s3 s4 s5 s6 s7 s8 s9 s10 s11 s12 s13 s14 : Sl} : eVar 15 (s0 :: s1 :: s2 :: s3 :: s4 :: s5 :: s6 :: s7 :: s8 :: s9 :: s10 :: s11 :: s12 :: s13 :: s14 :: .own d :: ρ) k = some (d, s0 :: s1 :: s2 :: s3 :: s4 :: s5 :: s6 :: s7 :: s8 :: s9 :: s10 :: s11 :: s12 :: s13 :: s14 :: .val d :: ρ, k) := nrfl rfl
theorem ix_15 {s : Sl} {s0 s1 s2 s3 s4 s5 s6 s7 s8 s9 s10 s11 s12 s13 s14 : Sl} : (s0 :: s1 :: s2 :: s3 :: s4 :: s5 :: s6 :: s7 :: s8 :: s9 :: s10 :: s11 :: s12 :: s13 :: s14 :: s :: ρ)[15]? = some s := nrfl rfl
theorem sx_15 {s v : Sl} {s0 s1 s2 s3 s4 s5 s6 s7 s8 s9 s10 s11 s12 s13 s14 : Sl} : (s0 :: s1 :: s2 :: s3 :: s4 :: s5 :: s6 :: s7 :: s8 :: s9 :: s10 :: s11 :: s12 :: s13 :: s14 :: s :: ρ).set 15 v = s0 :: s1 :: s2 :: s3 :: s4 :: s5 :: s6 :: s7 :: s8 :: s9 :: s10 :: s11 :: s12 :: s13 :: s14 :: v :: ρ := nrfl rfl
theorem vv_16 {s0 s1 s2 s3 s4 s5 s6 s7 s8 s9 s10 s11 s12 s13 s14 s15 : Sl} : eVar 16 (s0 :: s1 :: s2 :: s3 :: s4 :: s5 :: s6 :: s7 :: s8 :: s9 :: s10 :: s11 :: s12 :: s13 :: s14 :: s15 :: .val d :: ρ) k = some (d, s0 :: s1 :: s2 :: s3 :: s4 :: s5 :: s6 :: s7 :: s8 :: s9 :: s10 :: s11 :: s12 :: s13 :: s14 :: s15 :: .val d :: ρ, k) := nrfl rfl
theorem vo_16 {s0 s1 s2 s3 s4 s5 s6 s7 s8 s9 s10 s11 s12 s13 s14 s15 : Sl} : eVar 16 (s0 :: s1 :: s2 :: s3 :: s4 :: s5 :: s6 :: s7 :: s8 :: s9 :: s10 :: s11 :: s12 :: s13 :: s14 :: s15 :: .own d :: ρ) k = some (d, s0 :: s1 :: s2 :: s3 :: s4 :: s5 :: s6 :: s7 :: s8 :: s9 :: s10 :: s11 :: s12 :: s13 :: s14 :: s15 :: .val d :: ρ, k) := nrfl rfl
theorem ix_16 {s : Sl} {s0 s1 s2 s3 s4 s5 s6 s7 s8 s9 s10 s11 s12 s13 s14 s15 : Sl} : (s0 :: s1 :: s2 :: s3 :: s4 :: s5 :: s6 :: s7 :: s8 :: s9 :: s10 :: s11 :: s12 :: s13 :: s14 :: s15 :: s :: ρ)[16]? = some s := nrfl rfl
theorem sx_16 {s v : Sl} {s0 s1 s2 s3 s4 s5 s6 s7 s8 s9 s10 s11 s12 s13 s14 s15 : Sl} : (s0 :: s1 :: s2 :: s3 :: s4 :: s5 :: s6 :: s7 :: s8 :: s9 :: s10 :: s11 :: s12 :: s13 :: s14 :: s15 :: s :: ρ).set 16 v = s0 :: s1 :: s2 :: s3 :: s4 :: s5 :: s6 :: s7 :: s8 :: s9 :: s10 :: s11 :: s12 :: s13 :: s14 :: s15 :: v :: ρ := nrfl rfl
theorem vv_17 {s0 s1 s2 s3 s4 s5 s6 s7 s8 s9 s10 s11 s12 s13 s14 s15 s16 : Sl} : eVar 17 (s0 :: s1 :: s2 :: s3 :: s4 :: s5 :: s6 :: s7 :: s8 :: s9 :: s10 :: s11 :: s12 :: s13 :: s14 :: s15 :: s16 :: .val d :: ρ) k = some (d, s0 :: s1 :: s2 :: s3 :: s4 :: s5 :: s6 :: s7 :: s8 :: s9 :: s10 :: s11 :: s12 :: s13 :: s14 :: s15 :: s16 :: .val d :: ρ, k) := nrfl rfl
theorem vo_17 {s0 s1 s2 s3 s4 s5 s6 s7 s8 s9 s10 s11 s12 s13 s14 s15 s16 : Sl} : eVar 17 (s0 :: s1 :: s2 :: s3 :: s4 :: s5 :: s6 :: s7 :: s8 :: s9 :: s10 :: s11 :: s12 :: s13 :: s14 :: s15 :: s16 :: .own d :: ρ) k = some (d, s0 :: s1 :: s2 :: s3 :: s4 :: s5 :: s6 :: s7 :: s8 :: s9 :: s10 :: s11 :: s12 :: s13 :: s14 :: s15 :: s16 :: .val d :: ρ, k) := nrfl rfl
theorem ix_17 {s : Sl} {s0 s1 s2 s3 s4 s5 s6 s7 s8 s9 s10 s11 s12 s13 s14 s15 s16 : Sl} : (s0 :: s1 :: s2 :: s3 :: s4 :: s5 :: s6 :: s7 :: s8 :: s9 :: s10 :: s11 :: s12 :: s13 :: s14 :: s15 :: s16 :: s :: ρ)[17]? = some s := nrfl rfl
theorem sx_17 {s v : Sl} {s0 s1 s2 s3 s4 s5 s6 s7 s8 s9 s10 s11 s12 s13 s14 s15 s16 : Sl} : (s0 :: s1 :: s2 :: s3 :: s4 :: s5 :: s6 :: s7 :: s8 :: s9 :: s10 :: s11 :: s12 :: s13 :: s14 :: s15 :: s16 :: s :: ρ).set 17 v = s0 :: s1 :: s2 :: s3 :: s4 :: s5 :: s6 :: s7 :: s8 :: s9 :: s10 :: s11 :: s12 :: s13 :: s14 :: s15 :: s16 :: v :: ρ := nrfl rfl
theorem vv_18 {s0 s1 s2 s3 s4 s5 s6 s7 s8 s9 s10 s11 s12 s13 s14 s15 s16 s17 : Sl} : eVar 18 (s0 :: s1 :: s2 :: s3 :: s4 :: s5 :: s6 :: s7 :: s8 :: s9 :: s10 :: s11 :: s12 :: s13 :: s14 :: s15 :: s16 :: s17 :: .val d :: ρ) k = some (d, s0 :: s1 :: s2 :: s3 :: s4 :: s5 :: s6 :: s7 :: s8 :: s9 :: s10 :: s11 :: s12 :: s13 :: s14 :: s15 :: s16 :: s17 :: .val d :: ρ, k) := nrfl rfl
theorem vo_18 {s0 s1 s2 s3 s4 s5 s6 s7 s8 s9 s10 s11 s12 s13 s14 s15 s16 s17 : Sl} : eVar 18 (s0 :: s1 :: s2 :: s3 :: s4 :: s5 :: s6 :: s7 :: s8 :: s9 :: s10 :: s11 :: s12 :: s13 :: s14 :: s15 :: s16 :: s17 :: .own d :: ρ) k = some (d, s0 :: s1 :: s2 :: s3 :: s4 :: s5 :: s6 :: s7 :: s8 :: s9 :: s10 :: s11 :: s12 :: s13 :: s14 :: s15 :: s16 :: s17 :: .val d :: ρ, k) := nrfl rfl
theorem ix_18 {s : Sl} {s0 s1 s2 s3 s4 s5 s6 s7 s8 s9 s10 s11 s12 s13 s14 s15 s16 s17 : Sl} : (s0 :: s1 :: s2 :: s3 :: s4 :: s5 :: s6 :: s7 :: s8 :: s9 :: s10 :: s11 :: s12 :: s13 :: s14 :: s15 :: s16 :: s17 :: s :: ρ)[18]? = some s := nrfl rfl
theorem sx_18 {s v : Sl} {s0 s1 s2 s3 s4 s5 s6 s7 s8 s9 s10 s11 s12 s13 s14 s15 s16 s17 : Sl} : (s0 :: s1 :: s2 :: s3 :: s4 :: s5 :: s6 :: s7 :: s8 :: s9 :: s10 :: s11 :: s12 :: s13 :: s14 :: s15 :: s16 :: s17 :: s :: ρ).set 18 v = s0 :: s1 :: s2 :: s3 :: s4 :: s5 :: s6 :: s7 :: s8 :: s9 :: s10 :: s11 :: s12 :: s13 :: s14 :: s15 :: s16 :: s17 :: v :: ρ := nrfl rfl
theorem vv_19 {s0 s1 s2 s3 s4 s5 s6 s7 s8 s9 s10 s11 s12 s13 s14 s15 s16 s17 s18 : Sl} : eVar 19 (s0 :: s1 :: s2 :: s3 :: s4 :: s5 :: s6 :: s7 :: s8 :: s9 :: s10 :: s11 :: s12 :: s13 :: s14 :: s15 :: s16 :: s17 :: s18 :: .val d :: ρ) k = some (d, s0 :: s1 :: s2 :: s3 :: s4 :: s5 :: s6 :: s7 :: s8 :: s9 :: s10 :: s11 :: s12 :: s13 :: s14 :: s15 :: s16 :: s17 :: s18 :: .val d :: ρ, k) := nrfl rfl
theorem vo_19 {s0 s1 s2 s3 s4 s5 s6 s7 s8 s9 s10 s11 s12 s13 s14 s15 s16 s17 s18 : Sl} : eVar 19 (s0 :: s1 :: s2 :: s3 :: s4 :: s5 :: s6 :: s7 :: s8 :: s9 :: s10 :: s11 :: s12 :: s13 :: s14 :: s15 :: s16 :: s17 :: s18 :: .own d :: ρ) k = some (d, s0 :: s1 :: s2 :: s3 :: s4 :: s5 :: s6 :: s7 :: s8 :: s9 :: s10 :: s11 :: s12 :: s13 :: s14 :: s15 :: s16 :: s17 :: s18 :: .val d :: ρ, k) := nrfl rfl
theorem ix_19 {s : Sl} {s0 s1 s2 s3 s4 s5 s6 s7 s8 s9 s10 s11 s12 s13 s14 s15 s16 s17 s18 : Sl} : (s0 :: s1 :: s2 :: s3 :: s4 :: s5 :: s6 :: s7 :: s8 :: s9 :: s10 :: s11 :: s12 :: s13 :: s14 :: s15 :: s16 :: s17 :: s18 :: s :: ρ)[19]? = some s := nrfl rfl
theorem sx_19 {s v : Sl} {s0 s1 s2 s3 s4 s5 s6 s7 s8 s9 s10 s11 s12 s13 s14 s15 s16 s17 s18 : Sl} : (s0 :: s1 :: s2 :: s3 :: s4 :: s5 :: s6 :: s7 :: s8 :: s9 :: s10 :: s11 :: s12 :: s13 :: s14 :: s15 :: s16 :: s17 :: s18 :: s :: ρ).set 19 v = s0 :: s1 :: s2 :: s3 :: s4 :: s5 :: s6 :: s7 :: s8 :: s9 :: s10 :: s11 :: s12 :: s13 :: s14 :: s15 :: s16 :: s17 :: s18 :: v :: ρ := nrfl rfl
theorem vv_20 {s0 s1 s2 s3 s4 s5 s6 s7 s8 s9 s10 s11 s12 s13 s14 s15 s16 s17 s18 s19 : Sl} : eVar 20 (s0 :: s1 :: s2 :: s3 :: s4 :: s5 :: s6 :: s7 :: s8 :: s9 :: s10 :: s11 :: s12 :: s13 :: s14 :: s15 :: s16 :: s17 :: s18 :: s19 :: .val d :: ρ) k = some (d, s0 :: s1 :: s2 :: s3 :: s4 :: s5 :: s6 :: s7 :: s8 :: s9 :: s10 :: s11 :: s12 :: s13 :: s14 :: s15 :: s16 :: s17 :: s18 :: s19 :: .val d :: ρ, k) := nrfl rfl
theorem vo_20 {s0 s1 s2 s3 s4 s5 s6 s7 s8 s9 s10 s11 s12 s13 s14 s15 s16 s17 s18 s19 : Sl} : eVar 20 (s0 :: s1 :: s2 :: s3 :: s4 :: s5 :: s6 :: s7 :: s8 :: s9 :: s10 :: s11 :: s12 :: s13 :: s14 :: s15 :: s16 :: s17 :: s18 :: s19 :: .own d :: ρ) k = some (d, s0 :: s1 :: s2 :: s3 :: s4 :: s5 :: s6 :: s7 :: s8 :: s9 :: s10 :: s11 :: s12 :: s13 :: s14 :: s15 :: s16 :: s17 :: s18 :: s19 :: .val d :: ρ, k) := nrfl rfl
theorem ix_20 {s : Sl} {s0 s1 s2 s3 s4 s5 s6 s7 s8 s9 s10 s11 s12 s13 s14 s15 s16 s17 s18 s19 : Sl} : (s0 :: s1 :: s2 :: s3 :: s4 :: s5 :: s6 :: s7 :: s8 :: s9 :: s10 :: s11 :: s12 :: s13 :: s14 :: s15 :: s16 :: s17 :: s18 :: s19 :: s :: ρ)[20]? = some s := nrfl rfl
theorem sx_20 {s v : Sl} {s0 s1 s2 s3 s4 s5 s6 s7 s8 s9 s10 s11 s12 s13 s14 s15 s16 s17 s18 s19 : Sl} : (s0 :: s1 :: s2 :: s3 :: s4 :: s5 :: s6 :: s7 :: s8 :: s9 :: s10 :: s11 :: s12 :: s13 :: s14 :: s15 :: s16 :: s17 :: s18 :: s19 :: s :: ρ).set 20 v = s0 :: s1 :: s2 :: s3 :: s4 :: s5 :: s6 :: s7 :: s8 :: s9 :: s10 :: s11 :: s12 :: s13 :: s14 :: s15 :: s16 :: s17 :: s18 :: s19 :: v :: ρ := nrfl rfl
theorem vv_21 {s0 s1 s2 s3 s4 s5 s6 s7 s8 s9 s10 s11 s12 s13 s14 s15 s16 s17 s18 s19 s20 : Sl} : eVar 21 (s0 :: s1 :: s2 :: s3 :: s4 :: s5 :: s6 :: s7 :: s8 :: s9 :: s10 :: s11 :: s12 :: s13 :: s14 :: s15 :: s16 :: s17 :: s18 :: s19 :: s20 :: .val d :: ρ) k = some (d, s0 :: s1 :: s2 :: s3 :: s4 :: s5 :: s6 :: s7 :: s8 :: s9 :: s10 :: s11 :: s12 :: s13 :: s14 :: s15 :: s16 :: s17 :: s18 :: s19 :: s20 :: .val d :: ρ, k) := nrfl rfl
theorem vo_21 {s0 s1 s2 s3 s4 s5 s6 s7 s8 s9 s10 s11 s12 s13 s14 s15 s16 s17 s18 s19 s20 : Sl} : eVar 21 (s0 :: s1 :: s2 :: s3 :: s4 :: s5 :: s6 :: s7 :: s8 :: s9 :: s10 :: s11 :: s12 :: s13 :: s14 :: s15 :: s16 :: s17 :: s18 :: s19 :: s20 :: .own d :: ρ) k = some (d, s0 :: s1 :: s2 :: s3 :: s4 :: s5 :: s6 :: s7 :: s8 :: s9 :: s10 :: s11 :: s12 :: s13 :: s14 :: s15 :: s16 :: s17 :: s18 :: s19 :: s20 :: .val d :: ρ, k) := nrfl rfl
theorem ix_21 {s : Sl} {s0 s1 s2 s3 s4 s5 s6 s7 s8 s9 s10 s11 s12 s13 s14 s15 s16 s17 s18 s19 s20 : Sl} : (s0 :: s1 :: s2 :: s3 :: s4 :: s5 :: s6 :: s7 :: s8 :: s9 :: s10 :: s11 :: s12 :: s13 :: s14 :: s15 :: s16 :: s17 :: s18 :: s19 :: s20 :: s :: ρ)[21]? = some s := nrfl rfl
theorem sx_21 {s v : Sl} {s0 s1 s2 s3 s4 s5 s6 s7 s8 s9 s10 s11 s12 s13 s14 s15 s16 s17 s18 s19 s20 : Sl} : (s0 :: s1 :: s2 :: s3 :: s4 :: s5 :: s6 :: s7 :: s8 :: s9 :: s10 :: s11 :: s12 :: s13 :: s14 :: s15 :: s16 :: s17 :: s18 :: s19 :: s20 :: s :: ρ).set 21 v = s0 :: s1 :: s2 :: s3 :: s4 :: s5 :: s6 :: s7 :: s8 :: s9 :: s10 :: s11 :: s12 :: s13 :: s14 :: s15 :: s16 :: s17 :: s18 :: s19 :: s20 :: v :: ρ := nrfl rfl
theorem vv_22 {s0 s1 s2 s3 s4 s5 s6 s7 s8 s9 s10 s11 s12 s13 s14 s15 s16 s17 s18 s19 s20 s21 : Sl} : eVar 22 (s0 :: s1 :: s2 :: s3 :: s4 :: s5 :: s6 :: s7 :: s8 :: s9 :: s10 :: s11 :: s12 :: s13 :: s14 :: s15 :: s16 :: s17 :: s18 :: s19 :: s20 :: s21 :: .val d :: ρ) k = some (d, s0 :: s1 :: s2 :: s3 :: s4 :: s5 :: s6 :: s7 :: s8 :: s9 :: s10 :: s11 :: s12 :: s13 :: s14 :: s15 :: s16 :: s17 :: s18 :: s19 :: s20 :: s21 :: .val d :: ρ, k) := nrfl rfl
theorem vo_22 {s0 s1 s2 s3 s4 s5 s6 s7 s8 s9 s10 s11 s12 s13 s14 s15 s16 s17 s18 s19 s20 s21 : Sl} : eVar 22 (s0 :: s1 :: s2 :: s3 :: s4 :: s5 :: s6 :: s7 :: s8 :: s9 :: s10 :: s11 :: s12 :: s13 :: s14 :: s15 :: s16 :: s17 :: s18 :: s19 :: s20 :: s21 :: .own d :: ρ) k = some (d, s0 :: s1 :: s2 :: s3 :: s4 :: s5 :: s6 :: s7 :: s8 :: s9 :: s10 :: s11 :: s12 :: s13 :: s14 :: s15 :: s16 :: s17 :: s18 :: s19 :: s20 :: s21 :: .val d :: ρ, k) := nrfl rfl
theorem ix_22 {s : Sl} {s0 s1 s2 s3 s4 s5 s6 s7 s8 s9 s10 s11 s12 s13 s14 s15 s16 s17 s18 s19 s20 s21 : Sl} : (s0 :: s1 :: s2 :: s3 :: s4 :: s5 :: s6 :: s7 :: s8 :: s9 :: s10 :: s11 :: s12 :: s13 :: s14 :: s15 :: s16 :: s17 :: s18 :: s19 :: s20 :: s21 :: s :: ρ)[22]? = some s := nrfl rfl
theorem sx_22 {s v : Sl} {s0 s1 s2 s3 s4 s5 s6 s7 s8 s9 s10 s11 s12 s13 s14 s15 s16 s17 s18 s19 s20 s21 : Sl} : (s0 :: s1 :: s2 :: s3 :: s4 :: s5 :: s6 :: s7 :: s8 :: s9 :: s10 :: s11 :: s12 :: s13 :: s14 :: s15 :: s16 :: s17 :: s18 :: s19 :: s20 :: s21 :: s :: ρ).set 22 v = s0 :: s1 :: s2 :: s3 :: s4 :: s5 :: s6 :: s7 :: s8 :: s9 :: s10 :: s11 :: s12 :: s13 :: s14 :: s15 :: s16 :: s17 :: s18 :: s19 :: s20 :: s21 :: v :: ρ := nrfl rfl
theorem vv_23 {s0 s1 s2 s3 s4 s5 s6 s7 s8 s9 s10 s11 s12 s13 s14 s15 s16 s17 s18 s19 s20 s21 s22 : Sl} : eVar 23 (s0 :: s1 :: s2 :: s3 :: s4 :: s5 :: s6 :: s7 :: s8 :: s9 :: s10 :: s11 :: s12 :: s13 :: s14 :: s15 :: s16 :: s17 :: s18 :: s19 :: s20 :: s21 :: s22 :: .val d :: ρ) k = some (d, s0 :: s1 :: s2 :: s3 :: s4 :: s5 :: s6 :: s7 :: s8 :: s9 :: s10 :: s11 :: s12 :: s13 :: s14 :: s15 :: s16 :: s17 :: s18 :: s19 :: s20 :: s21 :: s22 :: .val d :: ρ, k) := nrfl rfl
theorem vo_23 {s0 s1 s2 s3 s4 s5 s6 s7 s8 s9 s10 s11 s12 s13 s14 s15 s16 s17 s18 s19 s20 s21 s22 : Sl} : eVar 23 (s0 :: s1 :: s2 :: s3 :: s4 :: s5 :: s6 :: s7 :: s8 :: s9 :: s10 :: s11 :: s12 :: s13 :: s14 :: s15 :: s16 :: s17 :: s18 :: s19 :: s20 :: s21 :: s22 :: .own d :: ρ) k = some (d, s0 :: s1 :: s2 :: s3 :: s4 :: s5 :: s6 :: s7 :: s8 :: s9 :: s10 :: s11 :: s12 :: s13 :: s14 :: s15 :: s16 :: s17 :: s18 :: s19 :: s20 :: s21 :: s22 :: .val d :: ρ, k) := nrfl rfl
theorem ix_23 {s : Sl} {s0 s1 s2 s3 s4 s5 s6 s7 s8 s9 s10 s11 s12 s13 s14 s15 s16 s17 s18 s19 s20 s21 s22 : Sl} : (s0 :: s1 :: s2 :: s3 :: s4 :: s5 :: s6 :: s7 :: s8 :: s9 :: s10 :: s11 :: s12 :: s13 :: s14 :: s15 :: s16 :: s17 :: s18 :: s19 :: s20 :: s21 :: s22 :: s :: ρ)[23]? = some s := nrfl rfl
theorem sx_23 {s v : Sl} {s0 s1 s2 s3 s4 s5 s6 s7 s8 s9 s10 s11 s12 s13 s14 s15 s16 s17 s18 s19 s20 s21 s22 : Sl} : (s0 :: s1 :: s2 :: s3 :: s4 :: s5 :: s6 :: s7 :: s8 :: s9 :: s10 :: s11 :: s12 :: s13 :: s14 :: s15 :: s16 :: s17 :: s18 :: s19 :: s20 :: s21 :: s22 :: s :: ρ).set 23 v = s0 :: s1 :: s2 :: s3 :: s4 :: s5 :: s6 :: s7 :: s8 :: s9 :: s10 :: s11 :: s12 :: s13 :: s14 :: s15 :: s16 :: s17 :: s18 :: s19 :: s20 :: s21 :: s22 :: v :: ρ := nrfl rfl
theorem vv_24 {s0 s1 s2 s3 s4 s5 s6 s7 s8 s9 s10 s11 s12 s13 s14 s15 s16 s17 s18 s19 s20 s21 s22 s23 : Sl} : eVar 24 (s0 :: s1 :: s2 :: s3 :: s4 :: s5 :: s6 :: s7 :: s8 :: s9 :: s10 :: s11 :: s12 :: s13 :: s14 :: s15 :: s16 :: s17 :: s18 :: s19 :: s20 :: s21 :: s22 :: s23 :: .val d :: ρ) k = some (d, s0 :: s1 :: s2 :: s3 :: s4 :: s5 :: s6 :: s7 :: s8 :: s9 :: s10 :: s11 :: s12 :: s13 :: s14 :: s15 :: s16 :: s17 :: s18 :: s19 :: s20 :: s21 :: s22 :: s23 :: .val d :: ρ, k) := nrfl rfl
theorem vo_24 {s0 s1 s2 s3 s4 s5 s6 s7 s8 s9 s10 s11 s12 s13 s14 s15 s16 s17 s18 s19 s20 s21 s22 s23 : Sl} : eVar 24 (s0 :: s1 :: s2 :: s3 :: s4 :: s5 :: s6 :: s7 :: s8 :: s9 :: s10 :: s11 :: s12 :: s13 :: s14 :: s15 :: s16 :: s17 :: s18 :: s19 :: s20 :: s21 :: s22 :: s23 :: .own d :: ρ) k = some (d, s0 :: s1 :: s2 :: s3 :: s4 :: s5 :: s6 :: s7 :: s8 :: s9 :: s10 :: s11 :: s12 :: s13 :: s14 :: s15 :: s16 :: s17 :: s18 :: s19 :: s20 :: s21 :: s22 :: s23 :: .val d :: ρ, k) := nrfl rfl
theorem ix_24 {s : Sl} {s0 s1 s2 s3 s4 s5 s6 s7 s8 s9 s10 s11 s12 s13 s14 s15 s16 s17 s18 s19 s20 s21 s22 s23 : Sl} : (s0 :: s1 :: s2 :: s3 :: s4 :: s5 :: s6 :: s7 :: s8 :: s9 :: s10 :: s11 :: s12 :: s13 :: s14 :: s15 :: s16 :: s17 :: s18 :: s19 :: s20 :: s21 :: s22 :: s23 :: s :: ρ)[24]? = some s := nrfl rfl
theorem sx_24 {s v : Sl} {s0 s1 s2 s3 s4 s5 s6 s7 s8 s9 s10 s11 s12 s13 s14 s15 s16 s17 s18 s19 s20 s21 s22 s23 : Sl} : (s0 :: s1 :: s2 :: s3 :: s4 :: s5 :: s6 :: s7 :: s8 :: s9 :: s10 :: s11 :: s12 :: s13 :: s14 :: s15 :: s16 :: s17 :: s18 :: s19 :: s20 :: s21 :: s22 :: s23 :: s :: ρ).set 24 v = s0 :: s1 :: s2 :: s3 :: s4 :: s5 :: s6 :: s7 :: s8 :: s9 :: s10 :: s11 :: s12 :: s13 :: s14 :: s15 :: s16 :: s17 :: s18 :: s19 :: s20 :: s21 :: s22 :: s23 :: v :: ρ := nrfl rfl
end
theorem isi_non_int  : gIsI [.non, .ty "int"] = some (.bl false) := nrfl rfl
theorem isi_non_bool  : gIsI [.non, .ty "bool"] = some (.bl false) := nrfl rfl
theorem isi_non_str  : gIsI [.non, .ty "str"] = some (.bl false) := nrfl rfl
theorem isi_non_tuple  : gIsI [.non, .ty "tuple"] = some (.bl false) := nrfl rfl
theorem isi_non_list  : gIsI [.non, .ty "list"] = some (.bl false) := nrfl rfl
theorem isi_non_dict  : gIsI [.non, .ty "dict"] = some (.bl false) := nrfl rfl
theorem isi_bl_int {b : Bool} : gIsI [(.bl b), .ty "int"] = some (.bl true) := nrfl rfl
theorem isi_bl_bool {b : Bool} : gIsI [(.bl b), .ty "bool"] = some (.bl true) := nrfl rfl
theorem isi_bl_str {b : Bool} : gIsI [(.bl b), .ty "str"] = some (.bl false) := nrfl rfl
theorem isi_bl_tuple {b : Bool} : gIsI [(.bl b), .ty "tuple"] = some (.bl false) := nrfl rfl
theorem isi_bl_list {b : Bool} : gIsI [(.bl b), .ty "list"] = some (.bl false) := nrfl rfl
theorem isi_bl_dict {b : Bool} : gIsI [(.bl b), .ty "dict"] = some (.bl false) := nrfl rfl
theorem isi_int_int {i : Int} : gIsI [(.int i), .ty "int"] = some (.bl true) := nrfl rfl
theorem isi_int_bool {i : Int} : gIsI [(.int i), .ty "bool"] = some (.bl false) := nrfl rfl
theorem isi_int_str {i : Int} : gIsI [(.int i), .ty "str"] = some (.bl false) := nrfl rfl
theorem isi_int_tuple {i : Int} : gIsI [(.int i), .ty "tuple"] = some (.bl false) := nrfl rfl
theorem isi_int_list {i : Int} : gIsI [(.int i), .ty "list"] = some (.bl false) := nrfl rfl
theorem isi_int_dict {i : Int} : gIsI [(.int i), .ty "dict"] = some (.bl false) := nrfl rfl
theorem isi_str_int {x : Str} : gIsI [(.str x), .ty "int"] = some (.bl false) := nrfl rfl
theorem isi_str_bool {x : Str} : gIsI [(.str x), .ty "bool"] = some (.bl false) := nrfl rfl
theorem isi_str_str {x : Str} : gIsI [(.str x), .ty "str"] = some (.bl true) := nrfl rfl
theorem isi_str_tuple {x : Str} : gIsI [(.str x), .ty "tuple"] = some (.bl false) := nrfl rfl
theorem isi_str_list {x : Str} : gIsI [(.str x), .ty "list"] = some (.bl false) := nrfl rfl
theorem isi_str_dict {x : Str} : gIsI [(.str x), .ty "dict"] = some (.bl false) := nrfl rfl
theorem isi_tup_int {xs : List D} : gIsI [(.tup xs), .ty "int"] = some (.bl false) := nrfl rfl
theorem isi_tup_bool {xs : List D} : gIsI [(.tup xs), .ty "bool"] = some (.bl false) := nrfl rfl
theorem isi_tup_str {xs : List D} : gIsI [(.tup xs), .ty "str"] = some (.bl false) := nrfl rfl
theorem isi_tup_tuple {xs : List D} : gIsI [(.tup xs), .ty "tuple"] = some (.bl true) := nrfl rfl
theorem isi_tup_list {xs : List D} : gIsI [(.tup xs), .ty "list"] = some (.bl false) := nrfl rfl
theorem isi_tup_dict {xs : List D} : gIsI [(.tup xs), .ty "dict"] = some (.bl false) := nrfl rfl
theorem isi_lst_int {xs : List D} : gIsI [(.lst xs), .ty "int"] = some (.bl false) := nrfl rfl
theorem isi_lst_bool {xs : List D} : gIsI [(.lst xs), .ty "bool"] = some (.bl false) := nrfl rfl
theorem isi_lst_str {xs : List D} : gIsI [(.lst xs), .ty "str"] = some (.bl false) := nrfl rfl
theorem isi_lst_tuple {xs : List D} : gIsI [(.lst xs), .ty "tuple"] = some (.bl false) := nrfl rfl
theorem isi_lst_list {xs : List D} : gIsI [(.lst xs), .ty "list"] = some (.bl true) := nrfl rfl
theorem isi_lst_dict {xs : List D} : gIsI [(.lst xs), .ty "dict"] = some (.bl false) := nrfl rfl
theorem isi_dct_int {ks : List Key} {vs : List D} : gIsI [(.dct ks vs), .ty "int"] = some (.bl false) := nrfl rfl
theorem isi_dct_bool {ks : List Key} {vs : List D} : gIsI [(.dct ks vs), .ty "bool"] = some (.bl false) := nrfl rfl
theorem isi_dct_str {ks : List Key} {vs : List D} : gIsI [(.dct ks vs), .ty "str"] = some (.bl false) := nrfl rfl
theorem isi_dct_tuple {ks : List Key} {vs : List D} : gIsI [(.dct ks vs), .ty "tuple"] = some (.bl false) := nrfl rfl
theorem isi_dct_list {ks : List Key} {vs : List D} : gIsI [(.dct ks vs), .ty "list"] = some (.bl false) := nrfl rfl
theorem isi_dct_dict {ks : List Key} {vs : List D} : gIsI [(.dct ks vs), .ty "dict"] = some (.bl true) := nrfl rfl
section
variable {i j : Int} {a b : Str} {c : Bool} {xs ys : List D} {d e : D}
theorem r_lt : gLt (.int i) (.int j) = some (.bl (decide (i < j))) := nrfl rfl
theorem r_le : gLe (.int i) (.int j) = some (.bl (decide (i ≤ j))) := nrfl rfl
theorem r_gt : gGt (.int i) (.int j) = some (.bl (decide (j < i))) := nrfl rfl
theorem r_ge : gGe (.int i) (.int j) = some (.bl (decide (j ≤ i))) := nrfl rfl
theorem r_add : gAddB (.int i) (.int j) = some (.int (i + j)) := nrfl rfl
theorem r_addIB : gAddB (.int i) (.bl c) = some (.int (i + b2i c)) := nrfl rfl
theorem r_addBI : gAddB (.bl c) (.int i) = some (.int (b2i c + i)) := nrfl rfl
theorem r_sub : gSubB (.int i) (.int j) = some (.int (i - j)) := nrfl rfl
theorem r_subIB : gSubB (.int i) (.bl c) = some (.int (i - b2i c)) := nrfl rfl
theorem r_subBI : gSubB (.bl c) (.int i) = some (.int (b2i c - i)) := nrfl rfl
theorem r_neg : gNeg (.int i) = some (.int (-i)) := nrfl rfl
theorem r_eqI : gEqE (.int i) (.int j) = some (.bl (decide (i = j))) := by
  show gEq (.int i) (.int j) = _
  unfold gEq eqD toP
  have h1 : ∀ n : Int, SeqAt.shaped (.int n) = true := fun n => rfl
  simp only [Option.bind_some, h1, and_self, if_true, Option.map_some]
  show some (D.bl (i == j)) = _
  congr
theorem r_neI : gNeE (.int i) (.int j) = some (.bl (!decide (i = j))) := by
  show gNe (.int i) (.int j) = _
  unfold gNe eqD toP
  have h1 : ∀ n : Int, SeqAt.shaped (.int n) = true := fun n => rfl
  simp only [Option.bind_some, h1, and_self, if_true, Option.map_some]
  show some (D.bl (!(i == j))) = _
  congr
theorem r_eqB {c' : Bool} : gEqE (.bl c) (.bl c') = some (.bl (decide (c = c'))) := by cases c <;> cases c' <;> rfl
theorem r_neB {c' : Bool} : gNeE (.bl c) (.bl c') = some (.bl (!decide (c = c'))) := by cases c <;> cases c' <;> rfl
theorem r_eqBI : gEqE (.bl c) (.int j) = some (.bl (decide (b2i c = j))) := by
  show gEq (.bl c) (.int j) = _
  unfold gEq eqD toP
  have h1 : ∀ n : Int, SeqAt.shaped (.int n) = true := fun n => rfl
  have h2 : ∀ n : Bool, SeqAt.shaped (.bool n) = true := fun n => rfl
  simp only [Option.bind_some, h1, h2, and_self, if_true, Option.map_some]
  show some (D.bl ((if c then 1 else 0) == j)) = _
  congr
theorem r_eqS : gEqE (.str a) (.str b) = some (.bl (decide (a = b))) := nrfl rfl
theorem r_neS : gNeE (.str a) (.str b) = some (.bl (!decide (a = b))) := nrfl rfl
theorem r_eqT0 : gEqE (.tup xs) (.tup []) = some (.bl xs.isEmpty) := by
  show (if xs = [] ∨ ([] : List D) = [] then _ else _) = _
  rw [if_pos (.inr rfl)]
  simp
theorem r_neT0 : gNeE (.tup xs) (.tup []) = some (.bl (!xs.isEmpty)) := by
  show (if xs = [] ∨ ([] : List D) = [] then _ else _) = _
  rw [if_pos (.inr rfl)]
  simp
theorem r_eqL0 : gEqE (.lst xs) (.lst []) = some (.bl xs.isEmpty) := by
  show (if xs = [] ∨ ([] : List D) = [] then _ else _) = _
  rw [if_pos (.inr rfl)]
  simp
theorem r_neL0 : gNeE (.lst xs) (.lst []) = some (.bl (!xs.isEmpty)) := by
  show (if xs = [] ∨ ([] : List D) = [] then _ else _) = _
  rw [if_pos (.inr rfl)]
  simp
theorem r_isB {c' : Bool} : gIs (.bl c) (.bl c') = some (.bl (decide (c = c'))) := nrfl rfl
theorem r_isnB {c' : Bool} : gIsNot (.bl c) (.bl c') = some (.bl (!decide (c = c'))) := nrfl rfl
theorem r_isN : gIs d .non = some (.bl (isNonD d)) := by cases d <;> rfl
theorem r_isnN : gIsNot d .non = some (.bl (!isNonD d)) := by cases d <;> rfl
theorem r_lenT : gLen [.tup xs] = some (.int xs.length) := nrfl rfl
theorem r_lenL : gLen [.lst xs] = some (.int xs.length) := nrfl rfl
theorem r_min : gMin2 [.int i, .int j] = some (.int (if j < i then j else i)) := nrfl rfl
theorem r_intI : gInt [.int i] = some (.int i) := nrfl rfl
theorem r_intB : gInt [.bl c] = some (.int (if c then 1 else 0)) := nrfl rfl
theorem r_tupL : gTuple [.lst xs] = some (.tup xs) := nrfl rfl
theorem r_lstT : gList [.tup xs] = some (.lst xs) := nrfl rfl
theorem r_lstL : gList [.lst xs] = some (.lst xs) := nrfl rfl
/-- an item -/
theorem atI_nat {α : Type} {l : List α} {n : Nat} : L2.atI l (n : Int) = l[n]? := by
  unfold L2.atI ixN
  rw [if_pos (Int.natCast_nonneg n)]
  by_cases h : n < l.length
  · rw [if_pos (by omega)]
    simp
  · rw [if_neg (by omega)]
    simp
    omega
theorem ix_tup {n : Nat} : gIx (.tup xs) (.int (n : Int)) = xs[n]? := atI_nat
theorem ix_lst {n : Nat} : gIx (.lst xs) (.int (n : Int)) = xs[n]? := atI_nat
end
section
variable {vs : List Nat} {g : Tg} {tt elt : E} {src : EL} {body : SS} {ρ : List Sl} {k : Dk}
theorem wp_nil : wipeS ρ [] = ρ := nrfl rfl
theorem wp_cons {v : Nat} {r : List Nat} : wipeS ρ (v :: r) = (wipeS ρ r).set v .no := nrfl rfl
theorem ap_comp : eComp src vs g tt elt ρ k = (src ρ k).bnd fun x => if x.1.length < sizeLine then (eCompGo vs g tt elt x.1 (wipeS x.2.1 vs) x.2.2).mpd fun y => (.lst y.1, y.2) else none := nrfl rfl
theorem ap_for : sFor src g body ρ k = (src ρ k).bnd fun x => sForGo g body x.1 x.2.1 x.2.2 := nrfl rfl
theorem ap_iApp {gg : List D → Option (List D)} {fs : EL} : iApp gg fs ρ k = (fs ρ k).bnd fun x => (gg x.1).mpd fun z => (z, x.2.1, x.2.2) := nrfl rfl
/-- what is walked -/
def seqD : D → Option (List D)
  | .lst ds => some ds
  | .rdl ds => some ds
  | .tup ds => some ds
  | _ => none
theorem ap_iSeq {e : E} : iSeq e ρ k = (e ρ k).bnd fun x => (seqD x.1).mpd fun z => (z, x.2.1, x.2.2) := by
  unfold iSeq seqD
  congr
  funext x
  obtain ⟨d, r⟩ := x
  cases d <;> rfl
theorem sq_lst {ds : List D} : seqD (.lst ds) = some ds := nrfl rfl
theorem sq_tup {ds : List D} : seqD (.tup ds) = some ds := nrfl rfl
/-- a comprehension without draws -/
theorem comp_pure (p : D → Bool) (h : D → D) : ∀ (ds : List D), (∀ d ∈ ds, ∃ ρ1 ρ2, g d ρ = some ρ1 ∧ tt ρ1 k = some (.bl (p d), ρ2, k) ∧ (p d = true → ∃ ρ3, elt ρ2 k = some (h d, ρ3, k) ∧ wipeS ρ3 vs = ρ) ∧ (p d = false → wipeS ρ2 vs = ρ)) →
    eCompGo vs g tt elt ds ρ k = some ((ds.filter p).map h, ρ, k)
  | [], _ => rfl
  | d :: ds, H => by
    obtain ⟨ρ1, ρ2, h1, h2, h3, h4⟩ := H d (by simp)
    have ih := comp_pure p h ds fun d' hd => H d' (by simp [hd])
    unfold eCompGo
    rw [h1, Option.bind_some, h2, Option.bind_some]
    cases e : p d with
    | true =>
      obtain ⟨ρ3, h5, h6⟩ := h3 e
      show ((elt ρ2 k).bind fun y => (eCompGo vs g tt elt ds (wipeS y.2.1 vs) y.2.2).map fun z => (y.1 :: z.1, z.2)) = _
      rw [h5, Option.bind_some]
      show (eCompGo vs g tt elt ds (wipeS ρ3 vs) k).map (fun z => (h d :: z.1, z.2)) = _
      rw [h6, ih, List.filter_cons_of_pos e]
      rfl
    | false =>
      show eCompGo vs g tt elt ds (wipeS ρ2 vs) k = _
      rw [h4 e, ih, List.filter_cons_of_neg (by rw [e]; exact Bool.false_ne_true)]
/-- .. without a test -/
theorem comp_map (h : D → D) (ds : List D) (H : ∀ d ∈ ds, ∃ ρ1 ρ2 ρ3, g d ρ = some ρ1 ∧ tt ρ1 k = some (.bl true, ρ2, k) ∧ elt ρ2 k = some (h d, ρ3, k) ∧ wipeS ρ3 vs = ρ) :
    eCompGo vs g tt elt ds ρ k = some (ds.map h, ρ, k) := by
  have := comp_pure (vs := vs) (g := g) (tt := tt) (elt := elt) (ρ := ρ) (k := k) (fun _ => true) h ds fun d hd => by
    obtain ⟨ρ1, ρ2, ρ3, h1, h2, h3, h4⟩ := H d hd
    exact ⟨ρ1, ρ2, h1, h2, fun _ => ⟨ρ3, h3, h4⟩, fun e => by cases e⟩
  rw [this, List.filter_eq_self.mpr (fun _ _ => rfl)]
/-- .. with draws -/
inductive All2 {α β : Type} (R : α → β → Prop) : List α → List β → Prop
  | nil : All2 R [] []
  | cons {a : α} {b : β} {as : List α} {bs : List β} : R a b → All2 R as bs → All2 R (a :: as) (b :: bs)
theorem All2.length {α β : Type} {R : α → β → Prop} {as : List α} {bs : List β} (h : All2 R as bs) : as.length = bs.length := by
  induction h with
  | nil => rfl
  | cons _ _ ih => simp [ih]
theorem All2.right {α β : Type} {R : α → β → Prop} {P : β → Prop} {as : List α} {bs : List β} (h : All2 R as bs) (i : ∀ a b, R a b → P b) : ∀ b ∈ bs, P b := by
  induction h with
  | nil => intro b hb; simp at hb
  | cons h _ ih =>
    intro b hb
    rcases List.mem_cons.mp hb with e | hb
    · subst e; exact i _ _ h
    · exact ih b hb
/-- a loop that is gone through to its end -/
theorem for_inv (I : Nat → List Sl → Dk → Prop) : ∀ (ds : List D) (n : Nat) (ρ : List Sl) (k : Dk), I n ρ k → (∀ i d, ds[i]? = some d → ∀ ρ k, I (n + i) ρ k → ∃ ρ1 ρ2 k2, g d ρ = some ρ1 ∧ body ρ1 k = some (.nx, ρ2, k2) ∧ I (n + i + 1) ρ2 k2) →
    ∃ ρ' k', sForGo g body ds ρ k = some (.nx, ρ', k') ∧ I (n + ds.length) ρ' k'
  | [], n, ρ, k, h, _ => ⟨ρ, k, rfl, h⟩
  | d :: ds, n, ρ, k, h, H => by
    obtain ⟨ρ1, ρ2, k2, h1, h2, h3⟩ := H 0 d rfl ρ k h
    obtain ⟨ρ', k', q1, q2⟩ := for_inv I ds (n + 1) ρ2 k2 h3 fun i d' hd ρ k hI => by
      have := H (i + 1) d' (by simpa using hd) ρ k (by rw [show n + (i + 1) = n + 1 + i by omega]; exact hI)
      rw [show n + (i + 1) = n + 1 + i by omega] at this
      exact this
    refine ⟨ρ', k', ?_, by rw [List.length_cons, show n + (ds.length + 1) = n + 1 + ds.length by omega]; exact q2⟩
    unfold sForGo
    rw [h1, Option.bind_some, h2, Option.bind_some]
    exact q1
end
theorem blsOf_map {α : Type} (f : α → Bool) : ∀ l : List α, blsOf (l.map fun x => D.bl (f x)) = some (l.map f)
  | [] => rfl
  | x :: r => by
    show (blsOf (r.map fun x => D.bl (f x))).map _ = _
    rw [blsOf_map f r]; rfl
theorem gAll_map {α : Type} (f : α → Bool) (l : List α) : gAll [.lst (l.map fun x => D.bl (f x))] = some (.bl ((l.map f).all id)) := by
  show (blsOf _).map _ = _
  rw [blsOf_map]; rfl
/-- behind a turn of a loop -/
def fo (o : Out × List Sl × Dk) (f : List Sl → Dk → Option (Out × List Sl × Dk)) (_ : Tg1 f := ⟨⟩) : Option (Out × List Sl × Dk) := match o.1 with
  | .nx => f o.2.1 o.2.2
  | .ct => f o.2.1 o.2.2
  | .bk => some (.nx, o.2.1, o.2.2)
  | .rt d => some (.rt d, o.2.1, o.2.2)
  | .ex C ns es => some (.ex C ns es, o.2.1, o.2.2)
section
variable {d : D} {ds : List D} {ρ : List Sl} {k : Dk} {f : List Sl → Dk → Option (Out × List Sl × Dk)} {q : Tg1 f} {g : Tg} {body : SS}
theorem fo_nx : fo (.nx, ρ, k) f q = f ρ k := nrfl rfl
theorem fo_ct : fo (.ct, ρ, k) f q = f ρ k := nrfl rfl
theorem fo_bk : fo (.bk, ρ, k) f q = some (.nx, ρ, k) := nrfl rfl
theorem fo_rt : fo (.rt d, ρ, k) f q = some (.rt d, ρ, k) := nrfl rfl
theorem fo_ex {C : Str} {ns : List Str} {es : List D} : fo (.ex C ns es, ρ, k) f q = some (.ex C ns es, ρ, k) := nrfl rfl
end
section
variable {x0 x1 x2 x3 : D} {r : List D}
theorem it0 : gIx (.tup (x0 :: r)) (.int 0) = some x0 := ix_tup (xs := x0 :: r) (n := 0)
theorem it1 : gIx (.tup (x0 :: x1 :: r)) (.int 1) = some x1 := ix_tup (xs := x0 :: x1 :: r) (n := 1)
theorem it2 : gIx (.tup (x0 :: x1 :: x2 :: r)) (.int 2) = some x2 := ix_tup (xs := x0 :: x1 :: x2 :: r) (n := 2)
theorem it3 : gIx (.tup (x0 :: x1 :: x2 :: x3 :: r)) (.int 3) = some x3 := ix_tup (xs := x0 :: x1 :: x2 :: x3 :: r) (n := 3)
theorem il0 : gIx (.lst (x0 :: r)) (.int 0) = some x0 := ix_lst (xs := x0 :: r) (n := 0)
theorem il1 : gIx (.lst (x0 :: x1 :: r)) (.int 1) = some x1 := ix_lst (xs := x0 :: x1 :: r) (n := 1)
theorem il2 : gIx (.lst (x0 :: x1 :: x2 :: r)) (.int 2) = some x2 := ix_lst (xs := x0 :: x1 :: x2 :: r) (n := 2)
theorem il3 : gIx (.lst (x0 :: x1 :: x2 :: x3 :: r)) (.int 3) = some x3 := ix_lst (xs := x0 :: x1 :: x2 :: x3 :: r) (n := 3)
end
theorem r_mulL {i j : Int} (h : -1000000000000000 < i ∧ i < 1000000000000000) : gMul (.int i) (.int j) = some (.int (i * j)) := by
  show (if (-(2 ^ 64) < i ∧ i < 2 ^ 64) ∨ (-(2 ^ 64) < j ∧ j < 2 ^ 64) then some (D.int (i * j)) else none) = _
  rw [if_pos (.inl ⟨by omega, by omega⟩)]
theorem r_range1 {j : Int} (h : 0 ≤ j ∧ j < 1000000000000000) : gRange1 [.int j] = some (rangeD 0 j.toNat 1) := by
  show (if -(2 ^ 62) ≤ j ∧ j < 2 ^ 62 then some (rangeD 0 j.toNat 1) else none) = _
  rw [if_pos ⟨by omega, by omega⟩]
theorem r_lstS {xs : List D} (h : xs.length ≤ 10000) : gLstD xs = some (.lst xs) := if_pos (by rw [sizeLine_eq]; omega)
theorem r_tupS {xs : List D} (h : xs.length ≤ 10000) : gTupD xs = some (.tup xs) := if_pos (by rw [sizeLine_eq]; omega)
def osm (x : D × List Sl × Dk) : Option (Option Int × List Sl × Dk) := match x.1 with
  | .int i => some (some i, x.2.1, x.2.2)
  | _ => none
theorem osm_int {i : Int} {ρ : List Sl} {k : Dk} : osm (.int i, ρ, k) = some (some i, ρ, k) := nrfl rfl
theorem ap_oNone {ρ : List Sl} {k : Dk} : oNone ρ k = some (none, ρ, k) := nrfl rfl
theorem ap_oSome {a : E} {ρ : List Sl} {k : Dk} : oSome a ρ k = (a ρ k).bind osm := nrfl rfl
theorem ap_Sl {a : E} {lo hi : EO} {ρ : List Sl} {k : Dk} : eSl a lo hi ρ k = (a ρ k).bnd fun x => (lo x.2.1 x.2.2).bnd fun l => (hi l.2.1 l.2.2).bnd fun u => (gSl x.1 l.1 u.1).mpd fun z => (z, u.2.1, u.2.2) := nrfl rfl
theorem cut_to {xs : List D} {i : Int} (h : 0 ≤ i) : cutD xs none (some i) = xs.take i.toNat := by
  obtain ⟨n, rfl⟩ := Int.eq_ofNat_of_zero_le h
  unfold cutD
  rw [HT.sIx_nat, HT.sIx_none, List.drop_zero, Nat.sub_zero, Int.toNat_natCast]
  by_cases hl : n ≤ xs.length
  · rw [Nat.min_eq_left hl]
  · rw [Nat.min_eq_right (by omega), List.take_of_length_le (Nat.le_refl _), List.take_of_length_le (by omega)]
theorem cut_from {xs : List D} {i : Int} (h : 0 ≤ i) : cutD xs (some i) none = xs.drop i.toNat := by
  obtain ⟨n, rfl⟩ := Int.eq_ofNat_of_zero_le h
  unfold cutD
  rw [HT.sIx_nat, HT.sIx_none, Int.toNat_natCast]
  by_cases hl : n ≤ xs.length
  · rw [Nat.min_eq_left hl, List.take_of_length_le (by rw [List.length_drop]; omega)]
  · rw [Nat.min_eq_right (by omega), List.drop_of_length_le (Nat.le_refl _), List.drop_of_length_le (by omega)]
    simp
theorem sl_to {xs : List D} {i : Int} (h : 0 ≤ i) : gSl (.tup xs) none (some i) = some (.tup (xs.take i.toNat)) := by
  show some (D.tup (cutD xs none (some i))) = _
  rw [cut_to h]
theorem sl_from {xs : List D} {i : Int} (h : 0 ≤ i) : gSl (.tup xs) (some i) none = some (.tup (xs.drop i.toNat)) := by
  show some (D.tup (cutD xs (some i) none)) = _
  rw [cut_from h]
theorem sl_to1 {xs : List D} : gSl (.tup xs) none (some 1) = some (.tup (xs.take 1)) := sl_to (by decide)
theorem sl_from1 {xs : List D} : gSl (.tup xs) (some 1) none = some (.tup (xs.drop 1)) := sl_from (by decide)
theorem r_addT {a b : List D} (h : a.length + b.length ≤ 10000000) : gAddB (.tup a) (.tup b) = some (.tup (a ++ b)) := by
  show (if a.length + b.length ≤ sizeLine then some (D.tup (a ++ b)) else none) = _
  rw [if_pos (by rw [sizeLine_eq]; omega)]
theorem r_addL {a b : List D} (h : a.length + b.length ≤ 10000000) : gAddB (.lst a) (.lst b) = some (.lst (a ++ b)) := by
  show (if a.length + b.length ≤ sizeLine then some (D.lst (a ++ b)) else none) = _
  rw [if_pos (by rw [sizeLine_eq]; omega)]
theorem r_rev {xs : List D} : gRev (.tup xs) = some (.tup xs.reverse) := nrfl rfl
theorem r_pow {i : Int} {n : Nat} (h : n ≤ 1000000 ∧ i.natAbs < 1000000000) : gPow (.int i) (.int (n : Int)) = some (.int (i ^ n)) := by
  show (if 0 ≤ (n : Int) ∧ (n : Int) ≤ 1000000 ∧ i.natAbs < 2 ^ 64 then some (D.int (i ^ (n : Int).toNat)) else none) = _
  rw [if_pos ⟨by omega, by omega, by omega⟩, Int.toNat_natCast]
/-- own things -/
def ownD (s : Option Sl) : Option (List Key × List D) := match s with
  | some (.own (.dct ks ds)) => some (ks, ds)
  | _ => none
def ownLs (s : Option Sl) : Option (List D) := match s with
  | some (.own (.lst ds)) => some ds
  | _ => none
theorem ow_l {ds : List D} : ownLs (some (.own (.lst ds))) = some ds := nrfl rfl
theorem ow_d {ks : List Key} {ds : List D} : ownD (some (.own (.dct ks ds))) = some (ks, ds) := nrfl rfl
section
variable {i : Nat} {fs : EL} {f fk fv : E} {ρ : List Sl} {k : Dk} {ks : List Key}
theorem ap_ownL : sOwnL i fs ρ k = (fs ρ k).bnd fun x => if x.1.length ≤ sizeLine then some (.nx, x.2.1.set i (.own (.lst x.1)), x.2.2) else none := nrfl rfl
theorem ap_app : sApp i f ρ k = (ownLs ρ[i]?).bnd fun _ => (f ρ k).bnd fun x => (ownLs x.2.1[i]?).bnd fun ds => if ds.length < sizeLine then some (.nx, x.2.1.set i (.own (.lst (ds ++ [x.1]))), x.2.2) else none := by
  have key : ∀ x : D × List Sl × Dk, (match x.2.1[i]? with
      | some (.own (.lst ds)) => if ds.length < sizeLine then some (Out.nx, x.2.1.set i (.own (.lst (ds ++ [x.1]))), x.2.2) else none
      | _ => none) = (ownLs x.2.1[i]?).bind fun ds => if ds.length < sizeLine then some (Out.nx, x.2.1.set i (.own (.lst (ds ++ [x.1]))), x.2.2) else none := fun x => by
    obtain ⟨d, ρ', k'⟩ := x
    unfold ownLs
    cases hρ : ρ'[i]? with
    | none => rfl
    | some s =>
      cases s with
      | no => rfl
      | val c => rfl
      | own c => cases c <;> rfl
  have e : (fun x : D × List Sl × Dk => (match x.2.1[i]? with
      | some (.own (.lst ds)) => if ds.length < sizeLine then some (Out.nx, x.2.1.set i (.own (.lst (ds ++ [x.1]))), x.2.2) else none
      | _ => none)) = fun x => (ownLs x.2.1[i]?).bind fun ds => if ds.length < sizeLine then some (Out.nx, x.2.1.set i (.own (.lst (ds ++ [x.1]))), x.2.2) else none := funext key
  unfold sApp ownLs
  cases hρ : ρ[i]? with
  | none => rfl
  | some s =>
    cases s with
    | no => rfl
    | val c => rfl
    | own c => cases c <;> first | rfl | exact congrArg ((f ρ k).bind) e
def lstD : D → Option (List D)
  | .lst ds => some ds
  | _ => none
theorem ls_l {ds : List D} : lstD (.lst ds) = some ds := nrfl rfl
theorem ap_ext : sExt i f ρ k = (ownLs ρ[i]?).bnd fun _ => (f ρ k).bnd fun x => (ownLs x.2.1[i]?).bnd fun ds => (lstD x.1).bnd fun es => if ds.length + es.length ≤ sizeLine then some (.nx, x.2.1.set i (.own (.lst (ds ++ es))), x.2.2) else none := by
  have key : ∀ x : D × List Sl × Dk, (match x.2.1[i]?, x.1 with
      | some (.own (.lst ds)), .lst es => if ds.length + es.length ≤ sizeLine then some (Out.nx, x.2.1.set i (.own (.lst (ds ++ es))), x.2.2) else none
      | _, _ => none) = (ownLs x.2.1[i]?).bnd fun ds => (lstD x.1).bnd fun es => if ds.length + es.length ≤ sizeLine then some (.nx, x.2.1.set i (.own (.lst (ds ++ es))), x.2.2) else none := fun x => by
    obtain ⟨d, ρ', k'⟩ := x
    cases hρ : ρ'[i]? with
    | none => cases d <;> rfl
    | some s =>
      cases s with
      | no => cases d <;> rfl
      | val c => cases d <;> rfl
      | own c => cases c <;> cases d <;> rfl
  unfold sExt
  cases hρ : ρ[i]? with
  | none => rfl
  | some s =>
    cases s with
    | no => rfl
    | val c => rfl
    | own c => cases c <;> first | rfl | exact congrArg ((f ρ k).bind) (funext key)
end
end WS
namespace WS
open PySem PySem.Spec PyProof.Rows L2
def asc (x : Str) : Bool := x.cps.toList.all fun c => decide (c < 128)
mutual
/-- its leaves: truths, none, texts of plain signs, numbers to M -/
def lf (M : Nat) : D → Bool
  | .non | .bl _ => true
  | .int i => decide (i.natAbs ≤ M)
  | .str x => asc x
  | .tup xs | .lst xs => lfs M xs
  | .dct ks vs => ks.isEmpty && vs.isEmpty
  | _ => false
def lfs (M : Nat) : List D → Bool
  | [] => true
  | x :: r => lf M x && lfs M r
end
mutual
/-- its weight -/
def wt : D → Nat
  | .int _ => 200
  | .str x => x.length
  | .tup xs | .lst xs => wts xs
  | _ => 0
def wts : List D → Nat
  | [] => 0
  | x :: r => wt x + 1 + wts r
end
mutual
/-- its depth -/
def dpt : D → Nat
  | .tup xs | .lst xs => dpts xs + 1
  | .dct _ _ => 1
  | _ => 0
def dpts : List D → Nat
  | [] => 0
  | x :: r => max (dpt x) (dpts r)
end
theorem wts_len : ∀ l : List D, l.length ≤ wts l
  | [] => Nat.le_refl _
  | x :: r => by have := wts_len r; simp only [List.length_cons, wts]; omega
mutual
theorem lf_mono {M M' : Nat} (h : M ≤ M') : ∀ {d : D}, lf M d = true → lf M' d = true
  | .non, _ => rfl
  | .bl _, _ => rfl
  | .int i, e => by
    unfold lf at e ⊢
    exact decide_eq_true (Nat.le_trans (of_decide_eq_true e) h)
  | .str x, e => e
  | .tup xs, e => by unfold lf at e ⊢; exact lfs_mono h e
  | .lst xs, e => by unfold lf at e ⊢; exact lfs_mono h e
  | .dct ks vs, e => e
  | .rdl _, e => e
  | .ins _ _ _, e => e
  | .ty _, e => e
  | .obj _, e => e
  | .fn _, e => e
  | .loc _, e => e
  | .deck, e => e
theorem lfs_mono {M M' : Nat} (h : M ≤ M') : ∀ {l : List D}, lfs M l = true → lfs M' l = true
  | [], _ => rfl
  | x :: r, e => by
    unfold lfs at e ⊢
    rw [Bool.and_eq_true] at e ⊢
    exact ⟨lf_mono h e.1, lfs_mono h e.2⟩
end
mutual
theorem toR_lf {M : Nat} (hM : M ≤ 10 ^ 55) : ∀ {d : D}, lf M d = true → ∃ p, toR d = some p ∧ p.showable = true ∧ p.depth ≤ dpt d ∧ p.weight ≤ wt d ∧ p.leavesShort 60 = true
  | .non, _ => ⟨.none, by simp only [toR], rfl, Nat.le_refl _, Nat.le_refl _, rfl⟩
  | .bl b, _ => ⟨.bool b, by simp only [toR], rfl, Nat.le_refl _, Nat.le_refl _, rfl⟩
  | .int i, e => by
    have hi : i.natAbs ≤ M := of_decide_eq_true (by simpa only [lf] using e)
    have h1 : i.natAbs < 10 ^ 56 := by
      have : (10 : Nat) ^ 55 < 10 ^ 56 := by decide
      omega
    have h2 : i.natAbs.log2 < 187 := by
      by_cases h0 : i.natAbs = 0
      · rw [h0]; decide
      · exact (Nat.log2_lt h0).mpr (Nat.lt_trans h1 (by decide))
    refine ⟨.int i, by simp only [toR], ?_, Nat.le_refl _, ?_, ?_⟩
    · simp only [PyData.showable, decide_eq_true_eq]; omega
    · simp only [PyData.weight, wt]; split <;> omega
    · have h3 := int_text_length_le10 (a := i) (k := 56) (by decide) h1
      have h4 : (PyData.shown (.int i)).length ≤ 60 := by
        show (Str.ofString (toString i)).length ≤ 60
        rw [PySem.ofString_length]
        omega
      simp only [PyData.leavesShort]
      exact decide_eq_true h4
  | .str x, e => by
    have hx : ∀ c ∈ x.cps.toList, c < 128 := by
      have : asc x = true := by simpa only [lf] using e
      unfold asc at this
      exact fun c hc => of_decide_eq_true (List.all_eq_true.mp this c hc)
    refine ⟨.str x, by simp only [toR], rfl, Nat.le_refl _, Nat.le_refl _, ?_⟩
    simp only [PyData.leavesShort, List.all_eq_true, decide_eq_true_eq]
    exact fun c hc => Nat.lt_trans (hx c hc) (by decide)
  | .tup xs, e => by
    obtain ⟨ps, h1, h2, h3, h4, h5⟩ := toRs_lf hM (show lfs M xs = true by simpa only [lf] using e)
    refine ⟨.tuple ps, by simp only [toR, h1, Option.map_some], h2, ?_, ?_, h5⟩
    · simp only [PyData.depth, dpt]; omega
    · simp only [PyData.weight, wt]; omega
  | .lst xs, e => by
    obtain ⟨ps, h1, h2, h3, h4, h5⟩ := toRs_lf hM (show lfs M xs = true by simpa only [lf] using e)
    refine ⟨.list ps, by simp only [toR, h1, Option.map_some], h2, ?_, ?_, h5⟩
    · simp only [PyData.depth, dpt]; omega
    · simp only [PyData.weight, wt]; omega
  | .dct ks vs, e => by
    have e' : ks.isEmpty = true ∧ vs.isEmpty = true := by simpa only [lf, Bool.and_eq_true] using e
    have h1 := List.isEmpty_iff.mp e'.1
    have h2 := List.isEmpty_iff.mp e'.2
    subst h1 h2
    exact ⟨.dict [], by simp only [toR, toRs]; rfl, rfl, by simp only [PyData.depth, PyData.depthKv, dpt]; omega, Nat.le_refl _, rfl⟩
  | .rdl _, e => by simp only [lf] at e; cases e
  | .ins _ _ _, e => by simp only [lf] at e; cases e
  | .ty _, e => by simp only [lf] at e; cases e
  | .obj _, e => by simp only [lf] at e; cases e
  | .fn _, e => by simp only [lf] at e; cases e
  | .loc _, e => by simp only [lf] at e; cases e
  | .deck, e => by simp only [lf] at e; cases e
theorem toRs_lf {M : Nat} (hM : M ≤ 10 ^ 55) : ∀ {l : List D}, lfs M l = true → ∃ ps, toRs l = some ps ∧ PyData.showableAll ps = true ∧ PyData.depthAll ps ≤ dpts l ∧ PyData.weightAll ps ≤ wts l ∧ PyData.leavesShortAll 60 ps = true
  | [], _ => ⟨[], by simp only [toRs], rfl, Nat.le_refl _, Nat.le_refl _, rfl⟩
  | x :: r, e => by
    have e' : lf M x = true ∧ lfs M r = true := by simpa only [lfs, Bool.and_eq_true] using e
    obtain ⟨p, h1, h2, h3, h4, h5⟩ := toR_lf hM e'.1
    obtain ⟨ps, q1, q2, q3, q4, q5⟩ := toRs_lf hM e'.2
    refine ⟨p :: ps, by simp only [toRs, h1, q1, Option.bind_some, Option.map_some], ?_, ?_, ?_, ?_⟩
    · simp only [PyData.showableAll, h2, q2, Bool.and_self]
    · simp only [PyData.depthAll, dpts]; omega
    · simp only [PyData.weightAll, wts]; omega
    · simp only [PyData.leavesShortAll, h5, q5, Bool.and_self]
end
end WS
namespace WS
open PySem PySem.Spec PyProof.Rows L2
theorem asc_iff {x : Str} : asc x = true ↔ ∀ c ∈ x.cps.toList, c < 128 := by
  unfold asc
  rw [List.all_eq_true]
  exact ⟨fun h c hc => of_decide_eq_true (h c hc), fun h c hc => decide_eq_true (h c hc)⟩
end WS
namespace WS
open PySem PySem.Spec PyProof.Rows L2
end WS
namespace WS
open PySem PySem.Spec PyProof.Rows L2
section
variable {K : PySem.W.Frag} {mg : Str → Option Value} {h : Heap}
theorem df_mk (KX : K.In h) (G : h.Ns mainGlobals mg) {x : Str} {st : Stmt} {f : Addr} {oc : Value} {od an : Option Addr} {osl : Array (Option Value)} {kV doc pm cdv ct : Value} (m : PySem.W.nsIn K mainGlobals x = some (some (.ref f)))
    (l : K.lookup f = some ⟨oc, od, .func (PySem.W.fnOf x x (defArgs st) (defBody st) (defScope st) .none kV doc pm an cdv ct), osl⟩) (c : PySem.W.codeIn K cdv x = true) (k : PySem.W.keepIn K (.ref f) = true) : Df K mg x st :=
  ⟨f, _, fun_mk l c k, PySem.W.mg_of KX G m⟩
theorem nb_mk (KX : K.In h) (G : h.Ns mainGlobals mg) {x : Str} (m : PySem.W.nsIn K mainGlobals x = some none) : mg x = none := PySem.W.mg_none_of KX G m
theorem fn_mk {P : Program} {w : World} {base : Heap} {k : Nat} {x : Str} {st : Stmt} {N ps : List Str} (body : SS) (n m : Nat) {f : Addr} {fd : FuncData} (Fu : Fun K x x st f fd) (SC : FnScope N ps (defScope st)) (hps : ps.length = n) (hm : N.length = m) (hN : n ≤ m)
    (hb : ∀ (f : Addr) (cdv : Value) (A : Around) (outer : List Env) (s : Shared) (H : Hp) (E : XK), A.guards = some [] → Room k (A.deeper (envOfC x (defScope st) s.heap.objs.size f cdv)) →
      PSs (cxOf CX0 P w K mg base N x (defScope st) f cdv A outer s H E).nox (defBody st) (TSv K W0 body)) : FnG P w K mg base CX0 (k + 1) f fd ps (spS K n (runS m body)) := by
  subst hm
  exact fnS n hps hN Fu SC (hb f)
/-- how the law's def binds -/
theorem fun_bind {x y : Str} {st : Stmt} {f : Addr} {fd : FuncData} (Fu : Fun K x x st f fd) (hb : ∀ (kV doc pm : Value) (an : Option Addr) (cdv ct : Value) (u : Value), bindArgs (PySem.W.fnOf x x (defArgs st) (defBody st) (defScope st) .none kV doc pm an cdv ct) ⟨[u], []⟩ = pure [(y, u)]) (s : Shared) (u : Value) : BindsTo s fd ⟨[u], []⟩ [(y, u)] := by
  obtain ⟨oc, od, kV, doc, pm, an, cdv, ct, osl, rfl, lk, hcd⟩ := Fu.ex
  exact .of_eq (hb kV doc pm an cdv ct u)
/-- the law answers True -/
theorem sp_true {F : Fn} (hF : ∀ ns : List Int, ns.length ≤ 63 → ∃ k', F [.rdl (ns.map D.int)] none = some (.bl true, k')) (K : PySem.W.Frag) (H : Hp) (a : Addr) (ns : List Int) (hl : ns.length ≤ 63) (hO : Only H) (hs : SqL K H a (ns.map V.int)) :
    spS K 1 F [.ref a] H (fun v _ => v = .bl true) fun _ _ _ => False := by
  obtain ⟨k', e⟩ := hF ns hl
  refine ⟨rfl, ⟨H, none, []⟩, fun _ => none, _, none, _, k', ⟨Sub.refl _, fun _ _ z => (nomatch z), fun _ _ z => (nomatch z), rfl, fun i s e => by simp at e, fun i j d e p h => by simp at h, ⟨rfl, rfl⟩⟩, .cons (.rdl hs (RpL.ints ns)) .nil, e, fun v H' S' _ _ r => ?_⟩
  cases r
  rfl
end
end WS
namespace WS
open PySem PySem.Spec PyProof.Rows L2
section
variable {P : Program} {w : World} {A : Around} {E : Value → Shared → Prop} {s : Shared}
/-- sorted of what may be collected -/
theorem sorted_run {x : Value} {ltv : Value → Value → Bool} {G : List Value → Shared → Prop} {Q : Value → Shared → Prop} (O : SrtO.Swo ltv)
    (hcol : ∀ R : List Value → Shared → Prop, (∀ vs s1, G vs s1 → R vs s1) → wpAny (model P w) A.in1 (collect x) R E s)
    (hlen : ∀ vs s1, G vs s1 → vs.length ≤ sizeLine)
    (hsrt : ∀ vs s1, G vs s1 → 2 ≤ vs.length → SrtO.SortableO P w A.in1.in1 { s1 with heap := s1.heap.push (seqObj "list" vs.toArray 0) } s1.heap.objs.size vs ltv)
    (hfin : ∀ vs s1 out h', G vs s1 → SrtO.Srtd ltv out → SrtO.Stb ltv out vs → (∀ b o, s1.heap.get? b = some o → h'.get? b = some o) → (∃ c, h'.get? s1.heap.objs.size = some (seqObj "list" out.toArray c)) → Q (.ref s1.heap.objs.size) { s1 with heap := h' }) :
    wpAny (model P w) A (call (.builtin "sorted") [x]) Q E s := by
  refine Calls.call_function_entry PyProof.Rows.kind_sorted PyProof.Rows.plain_sorted PyProof.Rows.entry_sorted (PyProof.Rows.args_sorted1 x) ?body
  show wpAny _ A.in1 (Builtin.«sorted» ⟨[x], []⟩) _ _ s
  unfold Builtin.«sorted»
  refine wpAny_bind (m := checkCount "sorted" 1 1 _) (wpAny_pure ?c)
  refine wpAny_bind (hcol _ fun vs s1 g => ?d)
  refine wpAny_bind (wpAny_newList ?e (hlen vs s1 g))
  have at_ : (s1.heap.push (seqObj "list" vs.toArray 0)).get? s1.heap.objs.size = some (seqObj "list" vs.toArray 0) := Heap.get?_push_size s1.heap rfl
  refine wpAny_bind (wpAny_holding (wpAny_call_entry PyProof.Rows.slot_list_sort ⟨_, at_, rfl⟩ PyProof.Rows.entry_list_sort (SrtO.list_sort_ord O at_ (hlen vs s1 g) (hsrt vs s1 g) fun out h1 h2 => ⟨.none, rfl, ?f⟩) (PyProof.Rows.args_list_sort _)))
  obtain ⟨c, hc⟩ := PyProof.Rows.sortedHeap_at (vs := vs) (out := out.toArray) at_
  refine wpAny_pure ⟨_, rfl, hfin vs s1 out _ g h1 h2 (fun b o e => ?k) ⟨c, hc⟩⟩
  have lt := Heap.lt_size e
  refine (PyProof.Rows.sortedHeap_old (Nat.ne_of_lt lt) ?_).trans (Heap.get?_push_of_some _ e)
  rw [PyProof.Rows.size_push']
  exact Nat.lt_succ_of_lt lt
end
def isort (ns : List Int) : List Int := ns.mergeSort fun a b => decide (a ≤ b)
theorem isort_perm (ns : List Int) : (isort ns).Perm ns := List.mergeSort_perm ns _
theorem isort_sorted (ns : List Int) : (isort ns).Pairwise (· ≤ ·) := by
  have := List.pairwise_mergeSort (le := fun a b : Int => decide (a ≤ b)) (fun a b c h1 h2 => by simp only [decide_eq_true_eq] at *; omega) (fun a b => by simp only [Bool.or_eq_true, decide_eq_true_eq]; omega) ns
  exact this.imp fun h => by simpa using h
theorem isort_uniq {ns ms : List Int} (h : ms.Perm ns) (s : ms.Pairwise (· ≤ ·)) : ms = isort ns :=
  List.Perm.eq_of_pairwise (fun a b _ _ h1 h2 => Int.le_antisymm h1 h2) s (isort_sorted ns) (h.trans (isort_perm ns).symm)
end WS
namespace WS
open PySem PySem.Spec PyProof.Rows L2
end WS
namespace WS
open PySem PySem.Spec PyProof.Rows L2
def pairOf : D → Option (Int × Int)
  | .tup [.int a, .int b] => some (a, b)
  | _ => none
def pairsOfD : List D → Option (List (Int × Int))
  | [] => some []
  | d :: r => (pairOf d).bind fun p => (pairsOfD r).map fun q => p :: q
def lexLe (p q : Int × Int) : Bool := decide (p.1 < q.1) || (decide (p.1 = q.1) && decide (p.2 ≤ q.2))
theorem lexLe_iff {p q : Int × Int} : lexLe p q = true ↔ p.1 < q.1 ∨ (p.1 = q.1 ∧ p.2 ≤ q.2) := by
  unfold lexLe
  simp only [Bool.or_eq_true, Bool.and_eq_true, decide_eq_true_eq]
def psort (ps : List (Int × Int)) : List (Int × Int) := ps.mergeSort lexLe
theorem psort_perm (ps : List (Int × Int)) : (psort ps).Perm ps := List.mergeSort_perm ps _
theorem psort_sorted (ps : List (Int × Int)) : (psort ps).Pairwise fun p q => lexLe p q = true :=
  List.pairwise_mergeSort (fun a b c h1 h2 => by rw [lexLe_iff] at *; omega) (fun a b => by
    cases h : lexLe a b
    · have h' : ¬ lexLe a b = true := by rw [h]; exact Bool.false_ne_true
      rw [lexLe_iff] at h'
      rw [Bool.false_or, lexLe_iff]; omega
    · rfl) ps
theorem psort_uniq {ps qs : List (Int × Int)} (h : qs.Perm ps) (s : qs.Pairwise fun p q => lexLe p q = true) : qs = psort ps :=
  List.Perm.eq_of_pairwise (le := fun p q => lexLe p q = true) (fun a b _ _ h1 h2 => by
    rw [lexLe_iff] at h1 h2
    exact Prod.ext (by omega) (by omega)) s (psort_sorted ps) (h.trans (psort_perm ps).symm)
def pairD (p : Int × Int) : D := .tup [.int p.1, .int p.2]
def sortD (ds : List D) : Option D := match intsOf ds with
  | some ns => some (.lst ((isort ns).map .int))
  | none => (pairsOfD ds).map fun ps => .lst ((psort ps).map pairD)
def gSorted : List D → Option D
  | [.lst ds] => sortD ds
  | [.rdl ds] => sortD ds
  | [.tup ds] => sortD ds
  | _ => none
def PairAt (K : PySem.W.Frag) (H : Hp) (x : V) (p : Int × Int) : Prop := ∃ t, x = V.ref t ∧ SqT K H t [.int p.1, .int p.2]
theorem all2_map {α β : Type} {R : α → β → Prop} {f : α → β} : ∀ {l : List α}, (∀ x ∈ l, R x (f x)) → All2 R l (l.map f)
  | [], _ => .nil
  | x :: r, h => .cons (h x (by simp)) (all2_map fun y hy => h y (by simp [hy]))
theorem all2_eq {α β : Type} {R : α → β → Prop} {f : α → β} {l : List α} {m : List β} (h : All2 R l m) (hf : ∀ x p, R x p → f x = p) : l.map f = m := by
  induction h with
  | nil => rfl
  | cons h _ ih => rw [List.map_cons, hf _ _ h, ih]
theorem all2_left {α β : Type} {R : α → β → Prop} {l : List α} {m : List β} (h : All2 R l m) : ∀ x ∈ l, ∃ p, R x p := by
  induction h with
  | nil => intro x hx; simp at hx
  | cons h _ ih =>
    intro x hx
    rcases List.mem_cons.mp hx with e | hx
    · subst e; exact ⟨_, h⟩
    · exact ih x hx
/-- sorted by values -/
def rSort (K : PySem.W.Frag) : List V → Hp → VK → Prop := fun xs H Q => ∃ (a : Addr) (vs : List V), xs = [.ref a] ∧ (SqL K H a vs ∨ SqT K H a vs) ∧
  ((∃ ns : List Int, vs = ns.map V.int ∧ ∀ p, H p = none → Q (.ref p) (upd H p (.lst ((isort ns).map V.int)))) ∨
   (∃ (B : V → Int × Int → Prop) (ps : List (Int × Int)), (∀ x p, B x p → PairAt K H x p) ∧ All2 B vs ps ∧ ∀ ys p, All2 B ys (psort ps) → H p = none → Q (.ref p) (upd H p (.lst ys))))
theorem seq_at {X : Cx} {pins : List (Addr × Obj)} {σ : L2.St} {H : Hp} {s : Shared} {a : Addr} {vs : List V} (I : Inv X pins σ H s) (h : SqL X.K H a vs ∨ SqT X.K H a vs) :
    ∃ (its : List Value) (T : String) (o : Obj) (n : Nat), Vals vs its ∧ (T = "list" ∨ T = "tuple") ∧ s.heap.get? a = some o ∧ o.cls = .type T ∧ o.data = .seq its.toArray n ∧ vs.length ≤ sizeLine := by
  rcases h with h | h
  · obtain ⟨its, rv, ⟨o, n, e, c, _, d⟩, z⟩ := I.list h
    exact ⟨its, "list", o, n, rv, .inl rfl, e, c, d, z⟩
  · obtain ⟨its, rv, ⟨o, e, c, n, d⟩, z⟩ := I.tuple h
    exact ⟨its, "tuple", o, n, rv, .inr rfl, e, c, d, z⟩
theorem gone_of {h h1 : Heap} (k : ∀ b o, h.get? b = some o → h1.get? b = some o) : h.get? h1.objs.size = none := by
  cases e : h.get? h1.objs.size with
  | none => rfl
  | some o => exact absurd (Heap.lt_size (k _ _ e)) (Nat.lt_irrefl _)
section
variable {X : Cx}
theorem cr_sort : CallR X (.builtin "sorted") (rSort X.K) := by
  intro pins s σ H xs us Q I r h
  obtain ⟨a, vs, rfl, hs, hq⟩ := h
  obtain ⟨its, T, o, n, rv, hT, ho, hc, hd, hz⟩ := seq_at I hs
  rw [Vals.ref1 r]
  have hz' : its.length ≤ sizeLine := by rw [← rv.length]; exact hz
  have col : ∀ R : List Value → Shared → Prop, (∀ ws s1, (ws = its ∧ ∃ h', s1 = { s with heap := h' } ∧ ∀ b u, s.heap.get? b = some u → h'.get? b = some u) → R ws s1) → wpAny (model X.prog X.w) X.A.in1 (collect (.ref a)) R X.xe s := fun R hR =>
    wpAny_collect_seq a hT ho hc hd (fun h' k => hR _ _ ⟨by simp, h', rfl, k⟩) (by rw [List.size_toArray]; exact hz')
  rcases hq with ⟨ns, rfl, q⟩ | ⟨B, ps, hB, hps, q⟩
  · have hi := rv.ints
    refine sorted_run SrtO.swo_int col (fun ws s1 g => by rw [g.1]; exact hz') (fun ws s1 g h2 => by rw [g.1] at h2 ⊢; exact SrtO.ints_sortable hi h2) fun ws s1 out h' g h1 h2 keep at_ => ?_
    obtain ⟨rfl, h1', rfl, k1⟩ := g
    obtain ⟨c, hc'⟩ := at_
    obtain ⟨z1, z2, z3⟩ := SrtO.ints_out hi h1 h2
    have new : s.heap.get? h1'.objs.size = none := gone_of k1
    have hn := I.hok.gone new
    have e := isort_uniq z2 z3
    refine ⟨.ref h1'.objs.size, upd H h1'.objs.size (.lst ((isort ns).map V.int)), I.laidN (t' := s.toks) (fun b u e => keep b u (k1 b u e)) new hn ⟨?_, out, c, ?_, hc'⟩, rfl, q _ hn⟩
    · rw [List.length_map, (isort_perm ns).length_eq, ← List.length_map (f := V.int)]; exact hz
    · rw [← e]; exact vals_of_ints z1
  · have uq : ∀ x p p', PairAt X.K H x p → PairAt X.K H x p' → p = p' := fun x p p' ⟨t, e, h⟩ ⟨t', e', h'⟩ => by
      subst e
      cases e'
      have := I.tuple_inj h h'
      simp only [List.cons.injEq, V.int.injEq, and_true] at this
      exact Prod.ext this.1 this.2
    let k : V → Int × Int := fun x => @dite _ (∃ p, PairAt X.K H x p) (Classical.propDecidable _) (fun h => h.choose) fun _ => (0, 0)
    have hk : ∀ x p, PairAt X.K H x p → k x = p := fun x p h => by
      have hx : ∃ p, PairAt X.K H x p := ⟨p, h⟩
      show @dite _ (∃ p, PairAt X.K H x p) (Classical.propDecidable _) (fun h => h.choose) (fun _ => (0, 0)) = p
      rw [dif_pos hx]
      exact uq _ _ _ hx.choose_spec h
    have hb : ∀ x ∈ vs, B x (k x) := fun x hx => by
      obtain ⟨p, h⟩ := all2_left hps x hx
      rw [hk x p (hB _ _ h)]; exact h
    have hp : ∀ x ∈ vs, PairAt X.K H x (k x) := fun x hx => hB _ _ (hb x hx)
    have hm := all2_eq hps fun x p h => hk x p (hB _ _ h)
    obtain ⟨e1, e2⟩ := refs_back rv fun x m => by
      obtain ⟨t, e, _⟩ := hp x m
      exact ⟨t, e⟩
    have prs : ∀ v ∈ its, Srt.IsPair s.heap v (k (backV v)).1 (k (backV v)).2 := fun v hv => by
      obtain ⟨b, rfl⟩ := e2 v hv
      have hm : V.ref b ∈ vs := by rw [e1]; exact List.mem_map.mpr ⟨_, hv, rfl⟩
      obtain ⟨t, et, ht⟩ := hp _ hm
      cases et
      obtain ⟨ys, ry, ⟨o2, g1, g2, n2, g3⟩, _⟩ := I.tuple ht
      obtain ⟨u1, u2, rfl, r1, r2⟩ := vals2 ry
      obtain ⟨t1, rfl⟩ := r1
      obtain ⟨t2, rfl⟩ := r2
      exact ⟨b, o2, t1, t2, n2, rfl, g1, g2, g3⟩
    refine sorted_run (SrtO.swo_lex fun u => k (backV u)) col (fun ws s1 g => by rw [g.1]; exact hz') (fun ws s1 g h2 => ?_) fun ws s1 out h' g h1 h2 keep at_ => ?_
    · obtain ⟨rfl, h1', rfl, k1⟩ := g
      refine SrtO.pairs_sortableO (by omega) (fun v hv => (prs v hv).keeps fun b u e _ => Heap.get?_push_of_some _ (k1 b u e)) fun o2 e => ?_
      have e' : some o2 = some _ := e.symm.trans (Heap.get?_push_size h1' rfl)
      cases e'
      exact fun c => absurd (Value.type.inj c) (by decide)
    · obtain ⟨rfl, h1', rfl, k1⟩ := g
      obtain ⟨c, hc'⟩ := at_
      have new : s.heap.get? h1'.objs.size = none := gone_of k1
      have hn := I.hok.gone new
      have h3 : ∀ u ∈ out, ∃ a, u = Value.ref a := fun u hu => e2 u (h2.perm.mem_iff.mp hu)
      have pm : (out.map backV).Perm vs := by rw [e1]; exact h2.perm.map backV
      refine ⟨.ref h1'.objs.size, upd H h1'.objs.size (.lst (out.map backV)), I.laidN (t' := s.toks) (fun b u e => keep b u (k1 b u e)) new hn ⟨?_, out, c, vals_back h3, hc'⟩, rfl, q _ _ ?_ hn⟩
      · rw [pm.length_eq]; exact hz
      · have hall := all2_map (R := B) (f := k) (l := out.map backV) fun x hx => hb x (pm.mem_iff.mp hx)
        rw [psort_uniq (ps := ps) (qs := (out.map backV).map k) (by rw [← hm]; exact pm.map k) ?_] at hall
        · exact hall
        rw [List.map_map]
        refine List.pairwise_map.mpr (h1.imp fun {x y} hb => ?_)
        have := SrtO.lexB_no.mp hb
        rw [lexLe_iff]
        show _ ∨ _
        simp only [Function.comp]
        omega
/-- sorted, by data -/
theorem x_sorted : CallX X (.builtin "sorted") gSorted := by
  refine ⟨_, cr_sort, fun S H xs ds z Q sh r eg q => ?_⟩
  have fin : ∀ (a : Addr) (vs : List V) (es : List D), (SqL X.K H a vs ∨ SqT X.K H a vs) → RpL X.K S vs es → sortD es = some z → rSort X.K [.ref a] H Q := fun a vs es hs rv e => by
    refine ⟨a, vs, rfl, hs, ?_⟩
    unfold sortD at e
    split at e
    · rename_i ns hns
      cases e
      refine .inl ⟨ns, intsOf_vs rv hns, fun p hp => q _ _ _ (Grow.add sh hp) (.lst Sx.add_at (RpL.ints _))⟩
    · cases hps : pairsOfD es with
      | none => rw [hps] at e; cases e
      | some ps =>
        rw [hps] at e
        cases e
        have pr : ∀ {vs : List V} {es : List D} {ps : List (Int × Int)}, RpL X.K S vs es → pairsOfD es = some ps → All2 (PairAt X.K S.hp) vs ps := by
          intro vs es
          induction es generalizing vs with
          | nil => intro ps r e; cases r; cases e; exact .nil
          | cons d es ih =>
            intro ps r e
            unfold pairsOfD at e
            cases h1 : pairOf d with
            | none => rw [h1] at e; cases e
            | some p =>
              cases h2 : pairsOfD es with
              | none => rw [h1, h2] at e; cases e
              | some qs =>
                rw [h1, h2] at e
                cases e
                cases r with
                | cons rx rr =>
                  refine .cons ?_ (ih rr h2)
                  unfold pairOf at h1
                  split at h1
                  · cases h1
                    cases rx with
                    | tup hx rl =>
                      cases rl with
                      | cons r1 rl =>
                        cases rl with
                        | cons r2 rl =>
                          cases rl
                          cases r1
                          cases r2
                          exact ⟨_, rfl, hx⟩
                  · cases h1
        have hps' := pr rv hps
        refine .inr ⟨PairAt X.K S.hp, ps, fun x p ⟨t, e, h⟩ => ⟨t, e, sh.sqT h⟩, hps', fun ys p hys hp => q _ ((S.add p (.lst ys))) _ (Grow.add sh hp) (.lst Sx.add_at ?_)⟩
        have le : Le S (S.add p (.lst ys)) := (Grow.add sh hp).le
        have : ∀ {ys : List V} {ps : List (Int × Int)}, All2 (PairAt X.K S.hp) ys ps → RpL X.K S ys (ps.map pairD) := by
          intro ys ps h
          induction h with
          | nil => exact .nil
          | cons h _ ih =>
            obtain ⟨t, rfl, ht⟩ := h
            exact .cons (.tup ht (.cons (.int _) (.cons (.int _) .nil))) ih
        exact (this hys).mono le
  unfold gSorted at eg
  split at eg
  · obtain ⟨v, rfl, rv⟩ := one_of r
    cases rv with
    | lst h r => exact fin _ _ _ (.inl (.inl (.inl (sh _ _ h)))) r eg
  · obtain ⟨v, rfl, rv⟩ := one_of r
    cases rv with
    | rdl h r => exact fin _ _ _ (.inl (sh.sqL h)) r eg
  · obtain ⟨v, rfl, rv⟩ := one_of r
    cases rv with
    | tup h r => exact fin _ _ _ (.inr (sh.sqT h)) r eg
  · cases eg
end
end WS
namespace WS
open PySem PySem.Spec PyProof.Rows L2
end WS
namespace WS
open PySem PySem.Spec PyProof.Rows L2
def intKeys : List Key → Option (List Int)
  | [] => some []
  | .inl i :: r => (intKeys r).map (i :: ·)
  | _ => none
/-- sorted(d), d an own dict -/
def eOSortK (i : Nat) : E := fun ρ k => match ρ[i]? with
  | some (.own (.dct ks _)) => (intKeys ks).bind fun is => if is.length < 64 then some (.lst ((isort is).map .int), ρ, k) else none
  | _ => none
end WS
namespace WS
open PySem PySem.Spec PyProof.Rows L2
section
variable {i : Nat} {fk fv : E} {ρ : List Sl} {k : Dk} {neg : Bool}
theorem ap_ownD0 : sOwnD0 i ρ k = some (.nx, ρ.set i (.own (.dct [] [])), k) := nrfl rfl
theorem kd_i {j : Int} : keyD (.int j) = some (.inl j) := nrfl rfl
theorem kd_s {x : Str} : keyD (.str x) = some (.inr x) := nrfl rfl
theorem ap_put : sPut i fk fv ρ k = (fv ρ k).bnd fun v => (ownD v.2.1[i]?).bnd fun _ => (fk v.2.1 v.2.2).bnd fun y => (ownD y.2.1[i]?).bnd fun kd => (keyD y.1).bnd fun z =>
    if kd.1.length < sizeLine then some (.nx, y.2.1.set i (.own (.dct (putD kd.1 kd.2 z v.1).1 (putD kd.1 kd.2 z v.1).2)), y.2.2) else none := by
  show (fv ρ k).bind _ = (fv ρ k).bind _
  congr
  funext v
  obtain ⟨vd, ρ1, k1⟩ := v
  unfold ownD
  dsimp only
  cases h1 : ρ1[i]? with
  | none => rfl
  | some s =>
    cases s with
    | no => rfl
    | val c => rfl
    | own c =>
      cases c <;> try rfl
      show (fk ρ1 k1).bind _ = (fk ρ1 k1).bind _
      congr
      funext y
      obtain ⟨yd, ρ2, k2⟩ := y
      dsimp only
      cases h2 : ρ2[i]? with
      | none => rfl
      | some s =>
        cases s with
        | no => rfl
        | val c => rfl
        | own c => cases c <;> rfl
theorem ap_oget : eOGet i fk ρ k = (ownD ρ[i]?).bnd fun _ => (fk ρ k).bnd fun y => (ownD y.2.1[i]?).bnd fun kd => (keyD y.1).bnd fun z => (lkD kd.1 kd.2 z).mpd fun d => (d, y.2.1, y.2.2) := by
  unfold eOGet ownD
  cases h1 : ρ[i]? with
  | none => rfl
  | some s =>
    cases s with
    | no => rfl
    | val c => rfl
    | own c =>
      cases c <;> try rfl
      show (fk ρ k).bind _ = (fk ρ k).bind _
      congr
      funext y
      obtain ⟨yd, ρ2, k2⟩ := y
      dsimp only
      cases h2 : ρ2[i]? with
      | none => rfl
      | some s =>
        cases s with
        | no => rfl
        | val c => rfl
        | own c => cases c <;> rfl
theorem ap_oin : eOIn neg fk i ρ k = (fk ρ k).bnd fun y => (ownD y.2.1[i]?).bnd fun kd => (keyD y.1).mpd fun z => (.bl (neg != (lkD kd.1 kd.2 z).isSome), y.2.1, y.2.2) := by
  show (fk ρ k).bind _ = (fk ρ k).bind _
  congr
  funext y
  obtain ⟨yd, ρ2, k2⟩ := y
  unfold ownD
  dsimp only
  cases h2 : ρ2[i]? with
  | none => rfl
  | some s =>
    cases s with
    | no => rfl
    | val c => rfl
    | own c => cases c <;> rfl
theorem ap_osort : eOSortK i ρ k = (ownD ρ[i]?).bnd fun kd => (intKeys kd.1).bnd fun is => if is.length < 64 then some (.lst ((isort is).map .int), ρ, k) else none := by
  unfold eOSortK ownD
  cases h2 : ρ[i]? with
  | none => rfl
  | some s =>
    cases s with
    | no => rfl
    | val c => rfl
    | own c => cases c <;> rfl
end
section
variable {vs : List Nat} {g : Tg} {tt elt : E} {ρ : List Sl}
/-- a comprehension with draws, place by place -/
theorem comp_runN (I : Nat → Dk → Prop) (R : D → D → Prop) : ∀ (ds : List D) (n : Nat) (k : Dk), I n k → (∀ i d, ds[i]? = some d → ∀ k, I (n + i) k → ∃ ρ1 ρ2 ρ3 e k', g d ρ = some ρ1 ∧ tt ρ1 k = some (.bl true, ρ2, k) ∧ elt ρ2 k = some (e, ρ3, k') ∧ wipeS ρ3 vs = ρ ∧ R d e ∧ I (n + i + 1) k') →
    ∃ es k', eCompGo vs g tt elt ds ρ k = some (es, ρ, k') ∧ All2 R ds es ∧ I (n + ds.length) k'
  | [], n, k, h, _ => ⟨[], k, rfl, .nil, h⟩
  | d :: ds, n, k, h, H => by
    obtain ⟨ρ1, ρ2, ρ3, e, k1, h1, h2, h3, h4, h5, h6⟩ := H 0 d rfl k h
    obtain ⟨es, k', q1, q2, q3⟩ := comp_runN I R ds (n + 1) k1 h6 fun i d' hd k hI => by
      have := H (i + 1) d' (by simpa using hd) k (by rw [show n + (i + 1) = n + 1 + i by omega]; exact hI)
      rw [show n + (i + 1) = n + 1 + i by omega] at this
      exact this
    refine ⟨e :: es, k', ?_, .cons h5 q2, by rw [List.length_cons, show n + (ds.length + 1) = n + 1 + ds.length by omega]; exact q3⟩
    unfold eCompGo
    rw [h1, Option.bind_some, h2, Option.bind_some]
    show ((elt ρ2 k).bind fun y => (eCompGo vs g tt elt ds (wipeS y.2.1 vs) y.2.2).map fun z => (y.1 :: z.1, z.2)) = _
    rw [h3, Option.bind_some]
    show (eCompGo vs g tt elt ds (wipeS ρ3 vs) k1).map (fun z => (e :: z.1, z.2)) = _
    rw [h4, q1]
    rfl
end
end WS
local macro_rules | `(tactic| simp! [$ts,*]) => `(tactic| simp -implicitDefEqProofs only [WS.ap_run, WS.ap_C, WS.ap_Op, WS.ap_Un, WS.ap_nil, WS.ap_cons, WS.ap_App, WS.ap_And, WS.ap_Or, WS.ap_Not, WS.ap_Not', WS.ap_NotB, WS.ap_If, WS.ap_sNil, WS.ap_sSeq, WS.ap_sRet, WS.ap_sDrop, WS.ap_sIf, WS.ap_sAsg, WS.ap_gSet, WS.ap_call, WS.ap_chain, WS.ap_pair, WS.wp_nil, WS.wp_cons, WS.ap_comp, WS.ap_for, WS.ap_iApp, WS.ap_iSeq, WS.sq_lst, WS.sq_tup, WS.it0, WS.it1, WS.it2, WS.it3, WS.il0, WS.il1, WS.il2, WS.il3, WS.fo_nx, WS.fo_ct, WS.fo_bk, WS.fo_rt, WS.bm_t, WS.bm_f, WS.om_nx, WS.om_rt, WS.om_bk, WS.om_ct, WS.fin_nx, WS.fin_rt, WS.bnd_some, WS.bnd_none, WS.mpd_some, WS.mpd_none, Option.bind_some, Option.map_some, Option.bind_none, Option.map_none, List.length_cons, List.length_nil, Nat.zero_add, Nat.reduceAdd, reduceIte, Nat.reduceEqDiff, Nat.reduceLeDiff, WS.osm_int, WS.ap_oNone, WS.ap_oSome, WS.ap_Sl, WS.ap_app, WS.ap_ext, WS.ap_ownL, WS.ow_l, WS.ow_d, WS.ls_l, WS.sl_to1, WS.sl_from1, WS.r_rev, WS.r_lstS, WS.r_tupS, WS.isi_non_int, WS.isi_non_bool, WS.isi_non_str, WS.isi_non_tuple, WS.isi_non_list, WS.isi_non_dict, WS.isi_bl_int, WS.isi_bl_bool, WS.isi_bl_str, WS.isi_bl_tuple, WS.isi_bl_list, WS.isi_bl_dict, WS.isi_int_int, WS.isi_int_bool, WS.isi_int_str, WS.isi_int_tuple, WS.isi_int_list, WS.isi_int_dict, WS.isi_str_int, WS.isi_str_bool, WS.isi_str_str, WS.isi_str_tuple, WS.isi_str_list, WS.isi_str_dict, WS.isi_tup_int, WS.isi_tup_bool, WS.isi_tup_str, WS.isi_tup_tuple, WS.isi_tup_list, WS.isi_tup_dict, WS.isi_lst_int, WS.isi_lst_bool, WS.isi_lst_str, WS.isi_lst_tuple, WS.isi_lst_list, WS.isi_lst_dict, WS.isi_dct_int, WS.isi_dct_bool, WS.isi_dct_str, WS.isi_dct_tuple, WS.isi_dct_list, WS.isi_dct_dict, WS.r_lt, WS.r_le, WS.r_gt, WS.r_ge, WS.r_add, WS.r_addIB, WS.r_addBI, WS.r_sub, WS.r_subIB, WS.r_subBI, WS.r_neg, WS.r_eqI, WS.r_neI, WS.r_eqB, WS.r_neB, WS.r_eqBI, WS.r_eqS, WS.r_neS, WS.r_eqT0, WS.r_neT0, WS.r_eqL0, WS.r_neL0, WS.r_isB, WS.r_isnB, WS.r_isN, WS.r_isnN, WS.r_lenT, WS.r_lenL, WS.r_min, WS.r_intI, WS.r_intB, WS.r_tupL, WS.r_lstT, WS.r_lstL, Bool.not_true, Bool.not_false, Bool.not_not, decide_true, decide_false, WS.bm_b, decide_eq_true_eq, Bool.not_eq_true', decide_eq_false_iff_not, Bool.false_eq_true, if_true, if_false, WS.ap_ownD0, WS.kd_i, WS.kd_s, WS.ap_put, WS.ap_oget, WS.ap_oin, WS.ap_osort, Int.cast_ofNat_Int, eq_self, Int.reduceEq, Int.reduceLT, Int.reduceLE, not_true_eq_false, not_false_eq_true, Bool.true_and, Bool.false_and, WS.st0_c, WS.st0_n, WS.st0_0, WS.vv_0, WS.vo_0, WS.ix_0, WS.sx_0, WS.vv_1, WS.vo_1, WS.ix_1, WS.sx_1, WS.vv_2, WS.vo_2, WS.ix_2, WS.sx_2, WS.vv_3, WS.vo_3, WS.ix_3, WS.sx_3, WS.vv_4, WS.vo_4, WS.ix_4, WS.sx_4, WS.vv_5, WS.vo_5, WS.ix_5, WS.sx_5, WS.vv_6, WS.vo_6, WS.ix_6, WS.sx_6, WS.vv_7, WS.vo_7, WS.ix_7, WS.sx_7, WS.vv_8, WS.vo_8, WS.ix_8, WS.sx_8, WS.vv_9, WS.vo_9, WS.ix_9, WS.sx_9, WS.vv_10, WS.vo_10, WS.ix_10, WS.sx_10, WS.vv_11, WS.vo_11, WS.ix_11, WS.sx_11, WS.vv_12, WS.vo_12, WS.ix_12, WS.sx_12, WS.vv_13, WS.vo_13, WS.ix_13, WS.sx_13, WS.vv_14, WS.vo_14, WS.ix_14, WS.sx_14, WS.vv_15, WS.vo_15, WS.ix_15, WS.sx_15, WS.vv_16, WS.vo_16, WS.ix_16, WS.sx_16, WS.vv_17, WS.vo_17, WS.ix_17, WS.sx_17, WS.vv_18, WS.vo_18, WS.ix_18, WS.sx_18, WS.vv_19, WS.vo_19, WS.ix_19, WS.sx_19, WS.vv_20, WS.vo_20, WS.ix_20, WS.sx_20, WS.vv_21, WS.vo_21, WS.ix_21, WS.sx_21, WS.vv_22, WS.vo_22, WS.ix_22, WS.sx_22, WS.vv_23, WS.vo_23, WS.ix_23, WS.sx_23, WS.vv_24, WS.vo_24, WS.ix_24, WS.sx_24, $ts,*])
namespace WS
open PySem PySem.Spec PyProof.Rows L2
inductive SK where
  | l (a : Addr) | t (a : Addr) | s (x : Str)
def SK.v : SK → V
  | .l a => .ref a
  | .t a => .ref a
  | .s x => .str x
def signsV (x : Str) : List V := x.cps.toList.map fun c => .str ⟨#[c]⟩
def SK.Has (K : PySem.W.Frag) (H : Hp) (xs : List V) : SK → Prop
  | .l a => SqL K H a xs
  | .t a => SqT K H a xs
  | .s x => xs = signsV x
def SK.fp (it : Addr) : SK → List Addr
  | .l a => [it, a]
  | .t a => [it, a]
  | .s _ => [it]
def SK.Iter (h : Heap) (it : Addr) (i : Nat) : SK → Prop
  | .l a => h.IsListIter it a i
  | .t a => h.IsTupleIter it a i
  | .s x => ∃ t, h.IsStrIter it (strIterType x) x t i
def SK.lt (h : Heap) : SK → Prop
  | .l a => a < h.objs.size
  | .t a => a < h.objs.size
  | .s _ => True
theorem SK.Iter.there {k : SK} {h : Heap} {it : Addr} {i : Nat} (x : k.Iter h it i) : ∃ o, h.get? it = some o ∧ ∀ v, o.data ≠ .cell v := by
  cases k with
  | l a => obtain ⟨o, e, _, d⟩ := x; exact ⟨o, e, fun v q => by rw [d] at q; cases q⟩
  | t a => obtain ⟨o, e, _, d⟩ := x; exact ⟨o, e, fun v q => by rw [d] at q; cases q⟩
  | s y => obtain ⟨t, o, e, _, d⟩ := x; exact ⟨o, e, fun v q => by rw [d] at q; cases q⟩
theorem SK.Iter.at {k : SK} {h h' : Heap} {it : Addr} {i : Nat} (x : k.Iter h it i) (f : ∀ o, h.get? it = some o → h'.get? it = some o) : k.Iter h' it i := by
  cases k with
  | l a => obtain ⟨o, e, r⟩ := x; exact ⟨o, f o e, r⟩
  | t a => obtain ⟨o, e, r⟩ := x; exact ⟨o, f o e, r⟩
  | s y => obtain ⟨t, o, e, r⟩ := x; exact ⟨t, o, f o e, r⟩
theorem SK.mem_fp {k : SK} {it : Addr} : it ∈ k.fp it := by cases k <;> simp [SK.fp]
section
variable {X : Cx} {pins : List (Addr × Obj)} {σ : L2.St} {H : Hp} {s : Shared}
/-- what such an iterator draws -/
theorem sk_draws (I : Inv X pins σ H s) (hc : X.calm = true) {k : SK} {it : Addr} {i : Nat} {xs : List V} (hx : k.Has X.K H xs) (hi : k.Iter s.heap it i) (hn : ∀ b ∈ k.fp it, b = it ∨ b ≠ it) (hne : ∀ a, (k = .l a ∨ k = .t a) → a ≠ it) :
    ∃ (P : Nat → Value → Prop) (St : Nat → Heap → Prop), Draws X.prog X.w X.A.in1 it (k.fp it) xs.length P St ∧ St i s.heap ∧ (∀ j h, St j h → k.Iter h it j) ∧ ∀ j u, P j u → ∃ x, xs[j]? = some x ∧ RelV x u := by
  have hh : X.A.in1.handled = none := I.ok.hd hc
  cases k with
  | l a =>
    obtain ⟨its, rv, p, _⟩ := I.list (show SqL X.K H a xs from hx)
    have e : its.toArray.size = xs.length := by rw [List.size_toArray, rv.length]
    refine ⟨_, _, e ▸ Draws.list hh it a (hne a (.inl rfl)) its.toArray, ⟨hi, p.isList⟩, fun j h st => st.1, fun j u hu => ?_⟩
    have hu' : its[j]? = some u := by simpa using hu
    have hj : j < xs.length := by rw [rv.length]; exact (List.getElem?_eq_some_iff.mp hu').1
    obtain ⟨u2, h2, r2⟩ := rv.get (List.getElem?_eq_getElem hj)
    rw [hu'] at h2; cases h2
    exact ⟨_, List.getElem?_eq_getElem hj, r2⟩
  | t a =>
    obtain ⟨its, rv, p, _⟩ := I.tuple (show SqT X.K H a xs from hx)
    have e : its.toArray.size = xs.length := by rw [List.size_toArray, rv.length]
    refine ⟨_, _, e ▸ Draws.tuple hh it a (hne a (.inr rfl)) its.toArray, ⟨hi, p⟩, fun j h st => st.1, fun j u hu => ?_⟩
    have hu' : its[j]? = some u := by simpa using hu
    have hj : j < xs.length := by rw [rv.length]; exact (List.getElem?_eq_some_iff.mp hu').1
    obtain ⟨u2, h2, r2⟩ := rv.get (List.getElem?_eq_getElem hj)
    rw [hu'] at h2; cases h2
    exact ⟨_, List.getElem?_eq_getElem hj, r2⟩
  | s y =>
    obtain ⟨t, hi⟩ := hi
    cases (show xs = signsV y from hx)
    have e : y.cps.size = (signsV y).length := by simp [signsV]
    refine ⟨_, _, e ▸ Draws.text hh it y t, hi, fun j h st => ⟨t, st⟩, fun j u hu => ?_⟩
    obtain ⟨c, tk, hcx, rfl⟩ := hu
    refine ⟨.str ⟨#[c]⟩, ?_, ⟨tk, rfl⟩⟩
    unfold signsV
    rw [List.getElem?_map, Array.getElem?_toList, hcx]; rfl
/-- .. at its end, or beyond -/
theorem sk_ends (I : Inv X pins σ H s) (hc : X.calm = true) {k : SK} {it : Addr} {i : Nat} {xs : List V} (hx : k.Has X.K H xs) (hi : k.Iter s.heap it i) (hne : ∀ a, (k = .l a ∨ k = .t a) → a ≠ it) :
    ∃ (n : Nat) (P : Nat → Value → Prop) (St : Nat → Heap → Prop), Draws X.prog X.w X.A.in1 it (k.fp it) n P St ∧ St i s.heap ∧ i ≤ n ∧ (xs.length ≤ i → i = n) := by
  have hh : X.A.in1.handled = none := I.ok.hd hc
  by_cases hl : xs.length ≤ i
  · refine ⟨i, fun _ _ => False, fun j h => j = i ∧ k.Iter h it i ∧ ∀ b ∈ k.fp it, ∀ o, s.heap.get? b = some o → b ≠ it → h.get? b = some o, ?_, ⟨rfl, hi, fun b _ o e _ => e⟩, Nat.le_refl _, fun _ => rfl⟩
    refine ⟨fun j h st => let ⟨o, e, _⟩ := st.2.1.there; ⟨o, e⟩, fun j h h' st kp => ⟨st.1, st.2.1.at fun o e => kp it SK.mem_fp o e, fun b hb o e n => kp b hb o (st.2.2 b hb o e n)⟩, fun j s' Q E hj st _ => absurd hj (by rw [st.1]; exact Nat.lt_irrefl _), fun s' Q E st hE => ?_⟩
    obtain ⟨_, st, rest⟩ := st
    cases k with
    | l a =>
      obtain ⟨its, rv, p, _⟩ := I.list (show SqL X.K H a xs from hx)
      have pl : s'.heap.IsList a its.toArray := p.isList.at fun o e => rest a (by simp [SK.fp]) o e (hne a (.inl rfl))
      exact wpAny_nextOf_list_end hh st pl (by have := rv.length; simp; omega) hE
    | t a =>
      obtain ⟨its, rv, p, _⟩ := I.tuple (show SqT X.K H a xs from hx)
      have p' : s.heap.IsTuple a its.toArray := p
      have pl : s'.heap.IsTuple a its.toArray := p'.at fun o e => rest a (by simp [SK.fp]) o e (hne a (.inr rfl))
      exact wpAny_nextOf_tuple_end hh st pl (by have := rv.length; simp; omega) hE
    | s y =>
      obtain ⟨t, st⟩ := st
      cases (show xs = signsV y from hx)
      have hx : y.cps[i]? = none := Array.getElem?_eq_none (by simpa [signsV] using hl)
      cases ha : y.cps.all (· < 128)
      · exact wpAny_nextOf_wide_end hh (by simpa [strIterType, ha] using st) hx hE
      · exact wpAny_nextOf_ascii_end hh (by simpa [strIterType, ha] using st) hx hE
  · obtain ⟨P, St, D, q, _⟩ := sk_draws I hc hx hi (fun b _ => Classical.em _) hne
    exact ⟨xs.length, P, St, D, q, by omega, fun z => absurd z hl⟩
theorem sk_inj (I : Inv X pins σ H s) {k : SK} {xs ys : List V} (h : k.Has X.K H xs) (h' : k.Has X.K H ys) : xs = ys := by
  cases k with
  | l a => exact I.list_inj h h'
  | t a => exact I.tuple_inj h h'
  | s y => exact h.trans h'.symm
/-- how it begins -/
theorem sk_begins (I : Inv X pins σ H s) {k : SK} {xs : List V} {u : Value} (hx : k.Has X.K H xs) (r : RelV k.v u) :
    ∃ (o : Obj) (B : Heap → Prop), Begins u o B ∧ B s.heap ∧ k.lt s.heap ∧ ∀ (h : Heap) (it : Addr), h.get? it = some o → k.Iter h it 0 := by
  cases k with
  | l a =>
    obtain ⟨its, rv, p, _⟩ := I.list (show SqL X.K H a xs from hx)
    cases (show u = Value.ref a from r)
    exact ⟨_, _, begins_list a its.toArray, p.isList, p.lt, fun h it e => ⟨_, e, rfl, rfl⟩⟩
  | t a =>
    obtain ⟨its, rv, p, _⟩ := I.tuple (show SqT X.K H a xs from hx)
    cases (show u = Value.ref a from r)
    obtain ⟨o1, ho1, _⟩ := id p
    exact ⟨_, _, begins_tuple a its.toArray, p, Heap.lt_size ho1, fun h it e => ⟨_, e, rfl, rfl⟩⟩
  | s y =>
    obtain ⟨t, rfl⟩ := (show ∃ t, u = Value.str y t from r)
    exact ⟨_, _, begins_text y t, trivial, trivial, fun h it e => ⟨t, _, e, rfl, rfl⟩⟩
end
def ItzG (k1 k2 : SK) (K : PySem.W.Frag) : It :=
  ⟨fun i H => ∃ (xs ys : List V) (x y : V), k1.Has K H xs ∧ k2.Has K H ys ∧ xs[i]? = some x ∧ ys[i]? = some y,
    fun i H v H' => ∃ T x y, v = .ref T ∧ H T = none ∧ H' = upd H T (.tup [x, y]) ∧ (∀ xs, k1.Has K H xs → xs[i]? = some x) ∧ ∀ ys, k2.Has K H ys → ys[i]? = some y,
    fun i H => ∃ xs ys : List V, k1.Has K H xs ∧ k2.Has K H ys ∧ (xs.length ≤ i ∨ ys.length ≤ i)⟩
def StG (k1 k2 : SK) (z TI TO i1 i2 : Addr) : Nat → Heap → Prop := fun i h => IsZip h z TI TO .none ∧ IsTupOf2 h TI (.ref i1) (.ref i2) ∧ (∃ x y, IsTupOf2 h TO x y) ∧ k1.Iter h i1 i ∧ k2.Iter h i2 i
section
variable {P : Program} {w : World} {K : PySem.W.Frag} {elts : List Expr} {kk : Nat} {tpos : Pos} {z TI TO i1 i2 : Addr} {k1 k2 : SK}
theorem mem5 {c : Addr} (h : c ∈ [z, TI, TO, i1, i2]) : c = z ∨ c = TI ∨ c = TO ∨ c = i1 ∨ c = i2 := by simpa using h
theorem out5 {c : Addr} (h : c ∉ [z, TI, TO, i1, i2]) : c ≠ z ∧ c ≠ TI ∧ c ≠ TO ∧ c ≠ i1 ∧ c ≠ i2 := by simpa using h
theorem turnG (D : ZipSep2 z TI TO i1 i2 (k1.fp i1) (k2.fp i2)) (n1 : ∀ a, (k1 = .l a ∨ k1 = .t a) → a ≠ i1) (n2 : ∀ a, (k2 = .l a ∨ k2 = .t a) → a ≠ i2) : Turn P w K (.Tuple elts kk tpos) (ItzG k1 k2 K) [z, TI, TO, i1, i2] z (StG k1 k2 z TI TO i1 i2) where
  mem := by simp
  obj := fun i h ⟨q1, q2, ⟨x, y, q3⟩, q4, q5⟩ c hc => by
    rcases mem5 hc with e | e | e | e | e
    · subst e; exact ⟨_, q1, fun v q => nomatch q⟩
    · subst e; exact ⟨_, q2, fun v q => nomatch q⟩
    · subst e; exact ⟨_, q3, fun v q => nomatch q⟩
    · subst e; exact q4.there
    · subst e; exact q5.there
  keep := fun i h h' ⟨q1, q2, ⟨x, y, q3⟩, q4, q5⟩ k =>
    ⟨k z (by simp) _ q1, k TI (by simp) _ q2, ⟨x, y, k TO (by simp) _ q3⟩, q4.at fun o q => k i1 (by simp) o q, q5.at fun o q => k i2 (by simp) o q⟩
  item := by
    intro X hP hw hK hc i pins s σ H E I hf st hg
    subst hP hw hK
    obtain ⟨q1, q2, ⟨x0, y0, q3⟩, q4, q5⟩ := st
    obtain ⟨xs, ys, x, y, hqx, hqy, hx, hy⟩ := hg
    obtain ⟨P1, S1, D1, s1, f1, g1⟩ := sk_draws I hc hqx q4 (fun b _ => Classical.em _) n1
    obtain ⟨P2, S2, D2, s2, f2, g2⟩ := sk_draws I hc hqy q5 (fun b _ => Classical.em _) n2
    have zl : z < s.heap.objs.size := Heap.lt_size q1
    refine wpAny_pyNext_zipD2_item D D1 D2 q1 q2 q3 s1 s2 (List.getElem?_eq_some_iff.mp hx).1 (List.getElem?_eq_some_iff.mp hy).1 fun u v g tk p1 p2 z' t' j1 j2 hT _ hk => ⟨_, rfl, wpAny_letOwnedTupleGo_zip (s := { s with heap := g, toks := tk }) z' fun g2' z2 sb => ?_⟩
    obtain ⟨x', hx', r1⟩ := g1 _ _ p1
    obtain ⟨y', hy', r2⟩ := g2 _ _ p2
    have ex : x' = x := Option.some.inj (hx'.symm.trans hx)
    have ey : y' = y := Option.some.inj (hy'.symm.trans hy)
    rw [ex] at r1
    rw [ey] at r2
    have pair2 : g2'.get? s.heap.objs.size = some { cls := .type "tuple", data := .seq #[u, v] } := (sb.2 _ (Nat.ne_of_gt zl)).trans hT
    have I1 : Inv X pins σ (upd H s.heap.objs.size (.tup [x, y])) { s with heap := g2', toks := tk } :=
      I.turnedNew (t' := tk) (ch := [z, TI, TO, i1, i2]) (fun c o hb q => by
        obtain ⟨n1, n2, n3, n4, n5⟩ := out5 hb
        exact (sb.2 c n1).trans (hk c o n1 n3 n4 n5 q)) hf (Nat.le_refl _) ⟨by show 2 ≤ sizeLine; decide, [u, v], .cons r1 (.cons r2 .nil), ⟨_, pair2, rfl, _, rfl⟩⟩
    refine ⟨.ref s.heap.objs.size, _, I1, rfl, ⟨_, x, y, rfl, I.hok.fresh (Nat.le_refl _), rfl, fun l hl => ?y1, fun l hl => ?y2⟩, ⟨z2, (sb.2 _ D.TIz).trans (hk _ _ D.TIz D.TITO D.TIi1 D.TIi2 q2), ⟨u, v, (sb.2 _ D.TOz).trans t'⟩, (f1 _ _ j1).at fun o q => (sb.2 _ D.zi1.symm).trans q, (f2 _ _ j2).at fun o q => (sb.2 _ D.zi2.symm).trans q⟩, fun c hcm => ?y3⟩
    case y1 => rw [sk_inj I hl hqx]; exact hx
    case y2 => rw [sk_inj I hl hqy]; exact hy
    case y3 =>
      have lt : c < s.heap.objs.size := by
        rcases mem5 hcm with e | e | e | e | e
        · subst e; exact zl
        · subst e; exact Heap.lt_size q2
        · subst e; exact Heap.lt_size q3
        · subst e; obtain ⟨_, e1, _⟩ := q4.there; exact Heap.lt_size e1
        · subst e; obtain ⟨_, e1, _⟩ := q5.there; exact Heap.lt_size e1
      rw [upd_ne (Nat.ne_of_lt lt)]
      exact (hf c hcm).1
  done := by
    intro X hP hw hK hc i pins s σ H E I hf st hg
    subst hP hw hK
    obtain ⟨q1, q2, ⟨x0, y0, q3⟩, q4, q5⟩ := st
    obtain ⟨xs, ys, hqx, hqy, e3⟩ := hg
    obtain ⟨m1, P1, S1, D1, s1, f1, g1⟩ := sk_ends I hc hqx q4 n1
    obtain ⟨m2, P2, S2, D2, s2, f2, g2⟩ := sk_ends I hc hqy q5 n2
    refine wpAny_pyNext_zipD2_end D D1 D2 q1 q2 q3 s1 s2 f1 f2 (e3.imp g1 g2) fun g tk hk => ⟨rfl, I.turnedL (t' := tk) (ch := [z, TI, TO, i1, i2]) (fun c o hb q => ?_) hf⟩
    obtain ⟨n1, n2, n3, n4, n5⟩ := out5 hb
    exact hk c o n1 n3 n4 n5 q
  self := fun A i s Q E st h => wpAny_pyIter_zip st.1 h
end
def iZipGt (K : PySem.W.Frag) (ta : TA) : TI := fun σ H R => ta σ H fun vs H1 => ∃ k1 k2 xs ys, vs = [k1.v, k2.v] ∧ k1.Has K H1 xs ∧ k2.Has K H1 ys ∧ R (ItzG k1 k2 K) H1
theorem fp_cases {k : SK} {it b : Addr} (h : b ∈ k.fp it) : b = it ∨ ∃ a, (k = .l a ∨ k = .t a) ∧ b = a := by
  cases k with
  | l a =>
    have : b = it ∨ b = a := by simpa [SK.fp] using h
    exact this.imp id fun e => ⟨a, .inl rfl, e⟩
  | t a =>
    have : b = it ∨ b = a := by simpa [SK.fp] using h
    exact this.imp id fun e => ⟨a, .inr rfl, e⟩
  | s x =>
    have : b = it := by simpa [SK.fp] using h
    exact .inl this
theorem lt_cases {h : Heap} {k : SK} (l : k.lt h) {a : Addr} (e : k = .l a ∨ k = .t a) : @LT.lt Nat _ a h.objs.size := by
  rcases e with e | e <;> subst e <;> exact l
theorem sk_ne {h : Heap} {k : SK} {n : Nat} (hn : h.objs.size ≤ n) (l : k.lt h) : ∀ a, (k = .l a ∨ k = .t a) → a ≠ n := fun a e z => by
  have := lt_cases l e
  have z' : @Eq Nat a n := z
  omega
theorem fp_le {h : Heap} {k : SK} {n b : Nat} (hn : h.objs.size ≤ n) (l : k.lt h) (hb : b ∈ k.fp n) : b = n ∨ b < h.objs.size := by
  rcases fp_cases hb with e | ⟨a, e1, e2⟩
  · exact .inl e
  · have := lt_cases l e1
    have e2' : @Eq Nat b a := e2
    exact .inr (by omega)
theorem sk_sep {h : Heap} {k1 k2 : SK} (l1 : k1.lt h) (l2 : k2.lt h) (n : Nat) (hn : n = h.objs.size) : ZipSep2 (n + 4) (n + 2) (n + 3) n (n + 1) (k1.fp n) (k2.fp (n + 1)) := by
  have f1 : ∀ b : Nat, b ∈ k1.fp n → b ≤ n := fun b hb => by rcases fp_le (Nat.le_of_eq hn.symm) l1 hb with q | q <;> omega
  have f2 : ∀ b : Nat, b ∈ k2.fp (n + 1) → b = n + 1 ∨ b < n := fun b hb => by rcases fp_le (h := h) (n := n + 1) (by omega) l2 hb with q | q <;> omega
  exact ⟨fun e => (by have e' : @Eq Nat (n + 2) (n + 4) := e; omega), fun e => (by have e' : @Eq Nat (n + 3) (n + 4) := e; omega), fun e => (by have e' : @Eq Nat (n + 2) (n + 3) := e; omega), fun e => (by have e' : @Eq Nat (n + 2) n := e; omega), SK.mem_fp,
    fun q => by (have := f1 (n + 4) q; omega), fun q => by (have := f1 (n + 3) q; omega), fun e => (by have e' : @Eq Nat (n + 2) (n + 1) := e; omega), SK.mem_fp, fun q => by (have := f2 (n + 4) q; omega), fun q => by (have := f2 (n + 3) q; omega),
    fun q => by (have := f2 n q; omega), fun q => by (have := f1 (n + 1) q; omega)⟩
theorem pi_zipG {X : Cx} {e e2 : Expr} {ta : TA} {p pos tpos : Pos} {elts : List Expr} {kk : Nat} (hg : Gl X "zip") (hm : X.mg "zip" = none) (ha : PA X [e, e2] ta)
    (hs : starEach [e, e2] X.env = (false, eval e X.env) :: starEach [e2] X.env := by rfl) (hpl : (backTo pos (starEach [e2] X.env)).any (·.1) = false := by rfl) :
    PI X (.Tuple elts kk tpos) (.Call (.Name "zip" p) [e, e2] [] pos) (iZipGt X.K ta) := by
  refine ⟨fun pins s σ H R I h => ?_⟩
  refine Call_ (ld_blt I hg hm PyProof.Rows.boot_zip (PyProof.Rows.callWith_type1 (thn (ha.run pos pins s σ H _ I h) fun us s1 ⟨vs, H1, I1, r1, q1⟩ => ?_) hs hpl))
  obtain ⟨k1, k2, xs, ys, ex, hqx, hqy, q⟩ := q1
  subst ex
  cases r1 with
  | cons r rr =>
    cases rr with
    | cons r' rr =>
      cases rr
      obtain ⟨o1, B1, b1, h1, l1, m1⟩ := sk_begins I1 hqx r
      obtain ⟨o2, B2, b2, h2, l2, m2⟩ := sk_begins I1 hqy r'
      have fresh5 : ∀ c, c ∈ [s1.heap.objs.size + 4, s1.heap.objs.size + 2, s1.heap.objs.size + 3, s1.heap.objs.size, s1.heap.objs.size + 1] → FpOk X pins H1 c := fun c hcm => by
        have hle : s1.heap.objs.size ≤ c := by
          rcases mem5 hcm with z | z | z | z | z <;> rw [z] <;> first | exact Nat.le_refl _ | exact Nat.le_add_right _ _
        exact I1.fpOk hle (I1.hok.fresh hle)
      refine zip_begins2 b1 b2 h1 h2 fun h' hz hTI hTO g1 g2 hsz hk => wpAny_pyIter_zip hz ?_
      have I2 : Inv X pins σ H1 { s1 with heap := h' } := I1.kept (t' := s1.toks) hk
      exact ⟨s1.heap.objs.size + 4, [s1.heap.objs.size + 4, s1.heap.objs.size + 2, s1.heap.objs.size + 3, s1.heap.objs.size, s1.heap.objs.size + 1], _, _, H1, rfl, I2,
        turnG (sk_sep l1 l2 s1.heap.objs.size rfl) (sk_ne (Nat.le_refl _) l1) (sk_ne (Nat.le_add_right _ _) l2), ⟨hz, hTI, ⟨_, _, hTO⟩, m1 _ _ g1, m2 _ _ g2⟩, fresh5, q⟩
end WS
namespace WS
open PySem PySem.Spec PyProof.Rows L2
def signsD (x : Str) : List D := x.cps.toList.map fun c => .str ⟨#[c]⟩
def srcD : D → Option (List D)
  | .lst ds => some ds
  | .rdl ds => some ds
  | .tup ds => some ds
  | .str x => some (signsD x)
  | _ => none
def gZipG : List D → Option (List D)
  | [d, e] => (srcD d).bind fun xs => (srcD e).map fun ys => List.zipWith (fun x y => .tup [x, y]) xs ys
  | _ => none
def iSrc (e : E) : EL := fun ρ k => (e ρ k).bind fun x => (srcD x.1).map fun z => (z, x.2.1, x.2.2)
section
variable {K : PySem.W.Frag} {S : Sx}
theorem signs_rp (x : Str) : RpL K S (signsV x) (signsD x) := by
  unfold signsV signsD
  induction x.cps.toList with
  | nil => exact .nil
  | cons c r ih => exact .cons (.str _) ih
theorem SK.Has.sub {H H' : Hp} {k : SK} {xs : List V} (h : k.Has K H xs) (s : Sub H H') : k.Has K H' xs := by
  cases k with
  | l a => exact s.sqL h
  | t a => exact s.sqT h
  | s x => exact h
theorem src_sk {v : V} {d : D} {ds : List D} (r : Rp K S v d) (e : srcD d = some ds) : ∃ k xs, v = SK.v k ∧ k.Has K S.hp xs ∧ RpL K S xs ds := by
  cases d with
  | lst xs => cases e; cases r with | lst h q => exact ⟨.l _, _, rfl, .inl (.inl h), q⟩
  | rdl xs => cases e; cases r with | rdl h q => exact ⟨.l _, _, rfl, h, q⟩
  | tup xs => cases e; cases r with | tup h q => exact ⟨.t _, _, rfl, h, q⟩
  | str x => cases e; cases r with | str => exact ⟨.s x, _, rfl, rfl, signs_rp x⟩
  | _ => cases e
theorem itd_zipG {k1 k2 : SK} {xs ys : List V} {ds es : List D} (h : k1.Has K S.hp xs) (h' : k2.Has K S.hp ys) (r : RpL K S xs ds) (r' : RpL K S ys es) : ItD K S (ItzG k1 k2 K) (List.zipWith (fun x y => .tup [x, y]) ds es) := by
  intro S1 H1 l sh i
  have h1 := (h.sub l.s).sub sh
  have h2 := (h'.sub l.s).sub sh
  refine ⟨fun d hd => ?_, fun hd => ?_⟩
  · obtain ⟨x, y, hx, hy, e⟩ := zip_get hd
    obtain ⟨v, hv, rv⟩ := r.get hx
    obtain ⟨u, hu, ru⟩ := r'.get hy
    subst e
    refine ⟨⟨xs, ys, v, u, h1, h2, hv, hu⟩, fun z H2 q => ?_⟩
    obtain ⟨T, v', u', e1, n, e2, q1, q2⟩ := q
    have z1 := q1 xs h1
    have z2 := q2 ys h2
    rw [hv] at z1; cases z1
    rw [hu] at z2; cases z2
    subst e1 e2
    have g := Grow.add (o := .tup [v, u]) sh n
    exact ⟨_, g, .tup (.inl (.inl Sx.add_at)) (.cons ((rv.mono l).mono g.le) (.cons ((ru.mono l).mono g.le) .nil))⟩
  · exact ⟨xs, ys, h1, h2, by rw [r.length, r'.length]; exact zip_none hd⟩
theorem itd_str {x : Str} : ItD K S (Its x) (signsD x) := by
  intro S1 H1 l sh i
  refine ⟨fun d hd => ?_, fun hd => ?_⟩
  · unfold signsD at hd
    rw [List.getElem?_map, Array.getElem?_toList] at hd
    cases hx : x.cps[i]? with
    | none => rw [hx] at hd; cases hd
    | some c =>
      rw [hx] at hd
      cases hd
      refine ⟨(Array.getElem?_eq_some_iff.mp hx).1, fun z H2 q => ?_⟩
      obtain ⟨e, c', hc, e2⟩ := q
      rw [hx] at hc; cases hc
      subst e e2
      exact ⟨S1, Grow.refl sh, .str _⟩
  · have := List.getElem?_eq_none_iff.mp hd
    show x.cps.size ≤ i
    simpa [signsD] using this
end
section
variable {X : Cx} {tg e e2 : Expr} {f : E} {fs : EL} {p pos tpos : Pos} {elts : List Expr} {kk : Nat}
def rSrcI (K : PySem.W.Frag) (tl : TE) : TI := fun σ H R => tl σ H fun x H1 => (∃ a, x = .ref a ∧ (((∃ xs, SqL K H1 a xs) ∧ R (Itl K a) H1) ∨ ((∃ xs, SqT K H1 a xs) ∧ R (Itt K a) H1))) ∨ ∃ y, x = .str y ∧ R (Its y) H1
theorem i_src0 {tl : TE} (h : PE X e tl) : PI X tg e (rSrcI X.K tl) := by
  refine ⟨fun pins s σ H R I hw => ?_⟩
  refine thn (h.run pins s σ H _ I hw) ?_
  intro v s1 ⟨x, H1, I1, r1, q1⟩
  rcases q1 with ⟨a, ex, q1⟩ | ⟨y, ex, q1⟩
  · subst ex
    cases r1
    have fp : ∀ b ∈ [s1.heap.objs.size], FpOk X pins H1 b := fun b hb => by
      rw [List.mem_singleton.mp hb]
      exact I1.fpOk (Nat.le_refl _) (I1.hok.fresh (Nat.le_refl _))
    rcases q1 with ⟨⟨xs, hq⟩, q⟩ | ⟨⟨xs, hq⟩, q⟩
    · obtain ⟨its, rv, pl, hz⟩ := I1.list hq
      exact wpAny_pyIter_list pl.isList ⟨s1.heap.objs.size, [s1.heap.objs.size], _, _, H1, rfl, I1.kept (t' := s1.toks) fun b o e => Heap.get?_push_of_some _ e, turn_list a _, ⟨_, Heap.get?_push_size _ rfl, rfl, rfl⟩, fp, q⟩
    · obtain ⟨its, rv, pl, hz⟩ := I1.tuple hq
      exact wpAny_pyIter_tuple (show s1.heap.IsTuple a its.toArray from pl) ⟨s1.heap.objs.size, [s1.heap.objs.size], _, _, H1, rfl, I1.kept (t' := s1.toks) fun b o e => Heap.get?_push_of_some _ e, turn_tuple a _, ⟨_, Heap.get?_push_size _ rfl, rfl, rfl⟩, fp, q⟩
  · subst ex
    obtain ⟨t, rfl⟩ := r1
    cases ha : y.cps.all (· < 128)
    · exact wpAny_pyIter_wide ha (pi_one (tk := s1.toks) I1 _ (turn_str _ y t "str_iterator" (.inr rfl)) ⟨_, Heap.get?_push_size _ rfl, rfl, rfl⟩ q1)
    · exact wpAny_pyIter_ascii ha (pi_one (tk := s1.toks) I1 _ (turn_str _ y t "str_ascii_iterator" (.inl rfl)) ⟨_, Heap.get?_push_size _ rfl, rfl, rfl⟩ q1)
theorem i_src (h : PE X e (TEv X.K f)) : PI X tg e (TIv X.K (iSrc f)) := (i_src0 h).imp fun σ H R hw => by
  obtain ⟨S, F, ρ, dk, ds, ρ', dk', Rr, e, q⟩ := hw
  unfold iSrc at e
  cases ea : f ρ dk with
  | none => rw [ea] at e; cases e
  | some x =>
    obtain ⟨d, ρ1, k1⟩ := x
    rw [ea] at e
    simp only [Option.bind_some] at e
    refine ⟨S, F, ρ, dk, d, ρ1, k1, Rr, ea, fun v H1 S1 l1 R1 rv => ?_⟩
    cases d with
    | lst xs =>
      cases e
      cases rv with
      | lst hs hr => exact .inl ⟨_, rfl, .inl ⟨⟨_, R1.sh.sqL (.inl (.inl hs))⟩, q _ H1 S1 l1 R1 (itd_list' (.inl (.inl hs)) hr)⟩⟩
    | rdl xs =>
      cases e
      cases rv with
      | rdl hs hr => exact .inl ⟨_, rfl, .inl ⟨⟨_, R1.sh.sqL hs⟩, q _ H1 S1 l1 R1 (itd_list' hs hr)⟩⟩
    | tup xs =>
      cases e
      cases rv with
      | tup hs hr => exact .inl ⟨_, rfl, .inr ⟨⟨_, R1.sh.sqT hs⟩, q _ H1 S1 l1 R1 (itd_tup hs hr)⟩⟩
    | str y =>
      cases e
      cases rv with
      | str => exact .inr ⟨_, rfl, q _ H1 S1 l1 R1 itd_str⟩
    | _ => cases e
theorem i_zipG (hg : Gl X "zip") (hm : X.mg "zip" = none) (ha : PA X [e, e2] (TAv X.K fs)) (hs : starEach [e, e2] X.env = (false, eval e X.env) :: starEach [e2] X.env := by kernel_rfl!) (hpl : (backTo pos (starEach [e2] X.env)).any (·.1) = false := by kernel_rfl!) :
    PI X (.Tuple elts kk tpos) (.Call (.Name "zip" p) [e, e2] [] pos) (TIv X.K (iApp gZipG fs)) :=
  (pi_zipG hg hm ha hs hpl).imp fun σ H R h => tiv_app (t := iZipGt X.K) (r := fun vs H1 R => ∃ k1 k2 xs ys, vs = [SK.v k1, SK.v k2] ∧ k1.Has X.K H1 xs ∧ k2.Has X.K H1 ys ∧ R (ItzG k1 k2 X.K) H1) (fun _ _ _ _ h => h) (fun S H vs ds zs R sh r e q => by
    unfold gZipG at e
    split at e
    case h_2 => cases e
    obtain ⟨xs, e1, e⟩ := Option.bind_eq_some_iff.mp e
    obtain ⟨ys, e2, e⟩ := Option.map_eq_some_iff.mp e
    subst e
    cases r with
    | cons r1 r2 =>
      cases r2 with
      | cons r2 r3 =>
        cases r3
        obtain ⟨k1, us, rfl, h1, q1⟩ := src_sk r1 e1
        obtain ⟨k2, ws, rfl, h2, q2⟩ := src_sk r2 e2
        exact ⟨_, _, _, _, rfl, h1.sub sh, h2.sub sh, q _ (itd_zipG h1 h2 q1 q2)⟩) h
end
section
variable {ρ : List Sl} {k : Dk} {e : E} {xs : List D} {x : Str}
theorem ap_iSrc : iSrc e ρ k = (e ρ k).bnd fun x => (srcD x.1).mpd fun z => (z, x.2.1, x.2.2) := nrfl rfl
theorem sr_l : srcD (.lst xs) = some xs := nrfl rfl
theorem sr_t : srcD (.tup xs) = some xs := nrfl rfl
theorem sr_s : srcD (.str x) = some (signsD x) := nrfl rfl
end
end WS
namespace WS
open PySem PySem.Spec PyProof.Rows L2
variable {W : WX}
def prm {α : Type} (π : List Nat) (xs : List α) : List α := π.filterMap fun i => xs[i]?
/-- f(e, .., k = v, ..): the keywords' names ks; π puts all in the parameters' order -/
def eCallK (n : Nat) (F : Fn) (π : List Nat) (a b : EL) : E := fun ρ k => (a ρ k).bind fun x => (b x.2.1 x.2.2).bind fun y => if (prm π (x.1 ++ y.1)).length = n then (F (prm π (x.1 ++ y.1)) y.2.2).map fun z => (z.1, y.2.1, z.2) else none
section
variable {X : Cx} {x : Str} {p pos : Pos} {a : Expr} {es : List Expr} {kws : List Keyword} {fs gs : EL} {n j : Nat} {F : Fn} {st : Stmt} {ps ks : List Str} {π : List Nat}
theorem ap_callK {ρ : List Sl} {k : Dk} : eCallK n F π fs gs ρ k = (fs ρ k).bnd fun x => (gs x.2.1 x.2.2).bnd fun y => if (prm π (x.1 ++ y.1)).length = n then (F (prm π (x.1 ++ y.1)) y.2.2).mpd fun z => (z.1, y.2.1, z.2) else none := nrfl rfl
theorem prm_0 {α : Type} {x : List α} : prm [] x = [] := nrfl rfl
end
def gLeE : D → D → Option D
  | .str a, .str b => some (.bl (!decide (b.cps.toList < a.cps.toList)))
  | d, e => gLe d e
theorem x_leE {X : Cx} : OpX X (compareOp .LtE) gLeE := by
  obtain ⟨r, h1, h2⟩ := x_le (X := X)
  refine ⟨_, op_le_str.or h1, fun S H x y d e z Q sh rx ry eg q => ?_⟩
  unfold gLeE at eg
  split at eg
  · cases eg
    cases rx
    cases ry
    exact .inl ⟨_, _, rfl, rfl, q _ S H (Grow.refl sh) (.bl _)⟩
  · exact .inr (h2 S H x y d e z Q sh rx ry eg q)
def strKeys : List Key → Option (List Str)
  | [] => some []
  | .inr i :: r => (strKeys r).map (i :: ·)
  | _ => none
theorem strKeys_map : ∀ {ks : List Key} {is : List Str}, strKeys ks = some is → ks = is.map Sum.inr
  | [], is, h => by cases h; rfl
  | .inr i :: r, is, h => by
    unfold strKeys at h
    cases q : strKeys r with
    | none => rw [q] at h; cases h
    | some js =>
      rw [q] at h
      cases h
      rw [strKeys_map q]; rfl
  | .inl x :: r, is, h => by cases h
/-- ys is xs in order -/
def sortS (xs : List Str) : List Str := xs.mergeSort fun a b => !decide (b.cps.toList < a.cps.toList)
theorem sortS_perm (xs : List Str) : (sortS xs).Perm xs := List.mergeSort_perm xs _
theorem sle_trans (a b c : Str) (h : (!decide (b.cps.toList < a.cps.toList)) = true) (h2 : (!decide (c.cps.toList < b.cps.toList)) = true) : (!decide (c.cps.toList < a.cps.toList)) = true := by
  simp only [Bool.not_eq_true', decide_eq_false_iff_not, List.not_lt] at *
  exact List.le_trans h h2
theorem sle_anti (a b : Str) (h : (!decide (b.cps.toList < a.cps.toList)) = true) (h2 : (!decide (a.cps.toList < b.cps.toList)) = true) : a = b := by
  simp only [Bool.not_eq_true', decide_eq_false_iff_not, List.not_lt] at *
  have e := List.le_antisymm h h2
  obtain ⟨a⟩ := a
  obtain ⟨b⟩ := b
  congr
  exact Array.toList_inj.mp e
theorem sortS_sorted (xs : List Str) : (sortS xs).Pairwise fun a b => (!decide (b.cps.toList < a.cps.toList)) = true :=
  List.pairwise_mergeSort (le := fun a b : Str => !decide (b.cps.toList < a.cps.toList)) (fun a b c => sle_trans a b c) (fun a b => by
    rw [Bool.or_eq_true]
    simp only [Bool.not_eq_true', decide_eq_false_iff_not, List.not_lt]
    exact List.le_total _ _) xs
theorem risingS_pw : ∀ {xs : List Str} {x : Str}, risingS x xs = true → (∀ y ∈ xs, (!decide (y.cps.toList < x.cps.toList)) = true) ∧ xs.Pairwise fun a b => (!decide (b.cps.toList < a.cps.toList)) = true
  | [], x, _ => ⟨fun y h => by simp at h, .nil⟩
  | z :: r, x, h => by
    unfold risingS at h
    rw [Bool.and_eq_true, ← le_meets] at h
    obtain ⟨h1, h2⟩ := h
    obtain ⟨q1, q2⟩ := risingS_pw h2
    refine ⟨fun y hy => ?_, List.pairwise_cons.mpr ⟨q1, q2⟩⟩
    rcases List.mem_cons.mp hy with e | hy
    · subst e; exact h1
    · exact sle_trans _ _ _ h1 (q1 y hy)
theorem sortS_uniq {xs ys : List Str} (h : ys.Perm xs) (s : sortedS ys = true) : ys = sortS xs := by
  have hs : ys.Pairwise fun a b => (!decide (b.cps.toList < a.cps.toList)) = true := by
    cases ys with
    | nil => exact .nil
    | cons x r => obtain ⟨q1, q2⟩ := risingS_pw (show risingS x r = true from s); exact List.pairwise_cons.mpr ⟨q1, q2⟩
  exact List.Perm.eq_of_pairwise (le := fun a b : Str => (!decide (b.cps.toList < a.cps.toList)) = true) (fun a b _ _ h1 h2 => sle_anti a b h1 h2) hs (sortS_sorted xs) (h.trans (sortS_perm xs).symm)
def gSortedE : List D → Option D
  | [.dct ks _] => (strKeys ks).bind fun is => if is.length < 64 then some (.lst ((sortS is).map .str)) else none
  | ds => gSorted ds
theorem rpl_strs {K : PySem.W.Frag} {S : Sx} : ∀ (is : List Str), RpL K S (is.map V.str) (is.map D.str)
  | [] => .nil
  | i :: r => .cons (.str i) (rpl_strs r)
section
variable {X : Cx}
theorem callR_or {f : Value} {r r' : List V → Hp → VK → Prop} (h : CallR X f r) (h' : CallR X f r') : CallR X f (fun xs H Q => r xs H Q ∨ r' xs H Q) := by
  intro pins s σ H xs us Q I rv q
  rcases q with q | q
  · exact h pins s σ H xs us Q I rv q
  · exact h' pins s σ H xs us Q I rv q
theorem x_sortedE (hc : X.calm = true) : CallX X (.builtin "sorted") gSortedE := by
  obtain ⟨r, h1, h2⟩ := x_sorted (X := X)
  refine ⟨_, callR_or (call_sortedD hc) h1, fun S H xs ds z Q sh rx eg q => ?_⟩
  unfold gSortedE at eg
  split at eg
  · rename_i ks vs
    obtain ⟨is, e1, eg⟩ := Option.bind_eq_some_iff.mp eg
    split at eg
    case isFalse => cases eg
    rename_i hl
    cases eg
    cases rx with
    | cons rx rr =>
      cases rr
      cases rx with
      | dct h k1 k2 rv =>
        refine .inl ⟨_, _, is, rfl, sh.rd h, by rw [k1]; exact strKeys_map e1, hl, fun ys p hp hs hn => ?_⟩
        have ey := sortS_uniq hp hs
        subst ey
        have gr := Grow.add sh hn (o := .lst ((sortS is).map V.str))
        exact q _ _ _ gr (.lst Sx.add_at (rpl_strs _))
  · exact .inr (h2 S H xs ds z Q sh rx eg q)
end
def rUpd : V → List V → Hp → VK → Prop := fun x vs H Q => ∃ (a b : Addr) (kvs more : List (Key × V)), x = .ref a ∧ vs = [.ref b] ∧ a ≠ b ∧ H a = some (.dK kvs) ∧ Rd H b (.dK more) ∧ kvs.length + more.length ≤ sizeLine ∧ Q .non (upd H a (.dK (mergeK kvs more)))
theorem mt_upd {X : Cx} : MtR X "dict.update" rUpd := by
  intro pins s σ H x vs v us Q I rx rv h
  obtain ⟨a, b, kvs, more, ex, ev, hne, e, e2, hl, q⟩ := h
  subst ex ev
  obtain rfl : v = Value.ref a := rx
  obtain ⟨u, rfl, ru⟩ := vals1 rv
  obtain rfl : u = Value.ref b := ru
  obtain ⟨z, hd, ws, rel, dd⟩ := dk_of I.hok e
  obtain ⟨z2, hd2, ws2, rel2, dd2⟩ := dk_rd I.hok e2
  refine call_meetsIn PySem.F.slot_dict_update dd.typeIs PySem.F.entry_dict_update (PySem.F.args_dict_update_2 _ _) (meets_dict_update (mixKind X.prog X.w) a b hne hd2) ⟨ws, ws2, dd, dd2, by rw [← rel.length, ← rel2.length]; exact hl, fun h' dd' _ hs => ?_⟩
  have he : ∃ q, h'.get? a = some q := let ⟨q, _, _, hq, _⟩ := dd'; ⟨q, hq⟩
  have hz : (mergeK kvs more).length ≤ sizeLine := Nat.le_trans (length_mergeK more kvs) hl
  exact ⟨.non, _, d_write (t' := s.toks) I (by rw [e]; exact True.intro) hs he (dk_new hz hd (rel2.merge rel) dd'), rfl, q⟩
def mergeD (ks : List Key) (ds : List D) : List Key → List D → List Key × List D
  | k :: ks', d :: ds' => mergeD (putD ks ds k d).1 (putD ks ds k d).2 ks' ds'
  | _, _ => (ks, ds)
theorem merge_ok {K : PySem.W.Frag} {S : Sx} : ∀ {more kvs : List (Key × V)} {ds es : List D}, RpL K S (kvs.map (·.2)) ds → RpL K S (more.map (·.2)) es →
    (mergeK kvs more).map (·.1) = (mergeD (kvs.map (·.1)) ds (more.map (·.1)) es).1 ∧ RpL K S ((mergeK kvs more).map (·.2)) (mergeD (kvs.map (·.1)) ds (more.map (·.1)) es).2
  | [], kvs, ds, es, r, r' => by cases r'; exact ⟨rfl, r⟩
  | (k, v) :: m, kvs, ds, _, r, .cons (d := d) (ds := es) h t => by
    obtain ⟨q1, q2⟩ := put_ok (z := k) h r
    have ih := merge_ok (more := m) (kvs := putK kvs k v) q2 t
    rw [q1] at ih
    exact ih
def sUpd (i : Nat) (f : E) : SS := fun ρ k => match ρ[i]? with
  | some (.own (.dct _ _)) => (f ρ k).bind fun x => match x.2.1[i]?, x.1 with
    | some (.own (.dct ks ds)), .dct ks' ds' => if ks.length + ks'.length ≤ sizeLine then some (.nx, x.2.1.set i (.own (.dct (mergeD ks ds ks' ds').1 (mergeD ks ds ks' ds').2)), x.2.2) else none
    | _, _ => none
  | _ => none
section
variable {X : Cx} {e : Expr} {f : E} {i : Nat} {x : Str} {p1 apos cpos spos : Pos}
theorem tsv_upd {K : PySem.W.Frag} {σ : L2.St} {H : Hp} {D' : Ends} (h : TSv K W (sUpd i f) D' σ H) :
    tDrop (tBM K "dict" rUpd (tVar i) (tCons (TEv K f) tNil)) D' σ H := by
  obtain ⟨S, F, ρ, dk, o, ρ', dk', R, e, q⟩ := h
  unfold sUpd at e
  split at e
  case h_2 => cases e
  rename_i h0
  obtain ⟨⟨dx, ρ1, k1⟩, e1, e⟩ := Option.bind_eq_some_iff.mp e
  obtain ⟨p, kv0, hp, hH0, _⟩ := own_dct R h0
  refine ⟨.ref p, hp, .inr (.inr (.inl ⟨rfl, .inl ⟨_, hH0⟩⟩)), S, F, ρ, dk, dx, ρ1, k1, R, e1, fun v H1 S1 l1 R1 rv => ?_⟩
  dsimp only at e
  split at e
  case h_2 => cases e
  rename_i ks ds ks' ds' h1
  split at e
  case isFalse => cases e
  rename_i hl
  cases e
  obtain ⟨p', kvs, hp', hH, hks, rr⟩ := own_dct R1 h1
  rw [hp] at hp'; cases hp'
  subst hks
  cases rv with
  | dct hh g1 g2 r =>
    subst g1 g2
    rename_i b more
    have hn : S1.hp p = none := by
      obtain ⟨p2, z1, z2, z3, z4⟩ := R1.env i _ h1
      rw [hp] at z1; cases z1
      exact z3
    have hne : p ≠ b := fun z => by
      subst z
      rcases hh with hh | ⟨o, hh⟩ <;> rw [hn] at hh <;> cases hh
    obtain ⟨q1, q2⟩ := merge_ok rr r
    exact ⟨p, b, kvs, more, rfl, rfl, hne, hH, R1.sh.rd hh, by simpa using hl, q _ _ S1 l1 (R1.turnOwn h1 hp ⟨_, upd_same, q1, q2⟩)⟩
theorem s_upd (hN : X.N[i]? = some x) (hv : Vis X.env.scope x) (he : PE X e (TEv X.K f)) (hd : (x == ("__debug__" : Str)) = false := by decide) (hcd : (x == ("__classdict__" : Str)) = false := by decide)
    (hsw : swapsWith (.Call (.Attribute (.Name x p1) "update" apos) [e] [] cpos) none spos.line X.env = pure false := by kernel_rfl!) (hbase : attributeBase (.Name x p1) "update" X.env (eval (.Name x p1) X.env) = eval (.Name x p1) X.env := by kernel_rfl!)
    (hfew : ((backTo cpos (starEach [e] X.env)).all (fun x => !x.1) && (backToKw cpos (keywordEach [] X.env)).all (fun x => x.1.isSome) && decide ([e].length + ([] : List Keyword).length + (if ([] : List Keyword).isEmpty then 0 else 1) < 30)) = true := by kernel_rfl!)
    (hline : (apos.endLine == cpos.line) = true := by kernel_rfl!) (hs : starEach [e] X.env = (false, eval e X.env) :: starEach [] X.env := by kernel_rfl!) (hpl : (backTo cpos (starEach [] X.env)).any (·.1) = false := by kernel_rfl!) :
    PS X (.Expr (.Call (.Attribute (.Name x p1) "update" apos) [e] [] cpos) spos) (TSv X.K W (sUpd i f)) :=
  (ps_expr (pe_bm PySem.F.plainAttrs_dict PySem.F.slot_dict_update PySem.F.type_dict_update mt_upd (pe_var hN hv hd hcd) (pa_cons he pa_nil hs) hbase hfew hline hs hpl) hsw).imp fun D' σ H h => tsv_upd h
end
end WS
namespace WS
open PySem PySem.Spec PyProof.Rows L2
mutual
def plain : D → Bool
  | .non | .bl _ | .int _ | .str _ => true
  | .tup xs | .lst xs => plains xs
  | .dct ks vs => ks.isEmpty && vs.isEmpty
  | _ => false
def plains : List D → Bool
  | [] => true
  | x :: r => plain x && plains r
end
/-- the deck -/
def DkOk (n : Nat) (k : Dk) : Prop := ∃ cells at_ sum st, k = some (cells, at_, sum, st) ∧ cells.length ≤ 63 ∧ 0 ≤ at_ ∧ at_ ≤ (n : Int)
theorem DkOk.mono {n m : Nat} {k : Dk} (h : DkOk n k) (l : n ≤ m) : DkOk m k := by
  obtain ⟨c, a, s, st, e, h1, h2, h3⟩ := h
  exact ⟨c, a, s, st, e, h1, h2, by omega⟩
theorem draw_ok {n : Nat} {k : Dk} (h : DkOk n k) (m : Int) (hm : 0 < m ∧ m < 1073741824) (hn : n < 1000000000000) : ∃ i k', F_draw [.deck, .int m] k = some (.int i, k') ∧ 0 ≤ i ∧ i < m ∧ DkOk (n + 1) k' := by
  obtain ⟨c, a, s, st, rfl, h1, h2, h3⟩ := h
  have hc : 0 < m ∧ m < 1073741824 ∧ 0 ≤ a ∧ a < 2 ^ 62 ∧ c.length ≤ 1000 := ⟨hm.1, hm.2, h2, by omega, by omega⟩
  have fig : ∀ x y, 0 ≤ figure x y m ∧ figure x y m < m := fun x y => by
    unfold figure
    exact ⟨Int.emod_nonneg _ (by omega), Int.emod_lt_of_pos _ hm.1⟩
  cases c with
  | nil =>
    refine ⟨figure (s + (a + 1)) (a + 1) m, some ([], a + 1, s, st), ?_, (fig _ _).1, (fig _ _).2, [], a + 1, s, st, rfl, by simp, by omega, by omega⟩
    show (if 0 < m ∧ m < 1073741824 ∧ 0 ≤ a ∧ a < 2 ^ 62 ∧ ([] : List Int).length ≤ 1000 then _ else _) = _
    rw [if_pos hc]
  | cons x r =>
    have hf : F_draw [.deck, .int m] (some (x :: r, a, s, st)) = if 10 ^ 18 ≤ x then some (.int (x % m), some (x / m :: r, a + 1, s, st)) else some (.int (figure x (a + 1) m), some (r, a + 1, s, st)) := by
      show (if 0 < m ∧ m < 1073741824 ∧ 0 ≤ a ∧ a < 2 ^ 62 ∧ (x :: r).length ≤ 1000 then _ else _) = _
      rw [if_pos hc]
    rw [hf]
    simp only [List.length_cons] at h1
    split
    · exact ⟨_, _, rfl, Int.emod_nonneg _ (by omega), Int.emod_lt_of_pos _ hm.1, _, _, _, _, rfl, by simp; omega, by omega, by omega⟩
    · exact ⟨_, _, rfl, (fig _ _).1, (fig _ _).2, _, _, _, _, rfl, by omega, by omega, by omega⟩
/-- a thing that may be asked about -/
structure Ask (d : D) : Prop where
  l : ∃ M, lf M d = true ∧ M ≤ 10 ^ 55
  w : wt d ≤ 9000
  p : dpt d ≤ 50
theorem Ask.tup {d : D} (h : Ask d) : ∀ xs, d = .tup xs → xs.length ≤ 9000 := fun xs e => by
  subst e
  exact Nat.le_trans (wts_len xs) h.w
section
variable {i j : Int} {a b : Str}
theorem r_leI : gLeE (.int i) (.int j) = some (.bl (decide (i ≤ j))) := nrfl rfl
theorem r_leS : gLeE (.str a) (.str b) = some (.bl (!decide (b.cps.toList < a.cps.toList))) := nrfl rfl
end
theorem ap_disp {ks : List Key} {fs : EL} {ρ : List Sl} {k : Dk} : eDisp ks fs ρ k = (fs ρ k).bnd fun x => if x.1.length = ks.length then some (.dct ks x.1, x.2.1, x.2.2) else none := nrfl rfl
def dctD : D → Option (List Key × List D)
  | .dct ks ds => some (ks, ds)
  | _ => none
theorem ap_sUpd {i : Nat} {f : E} {ρ : List Sl} {k : Dk} : sUpd i f ρ k = (ownD ρ[i]?).bnd fun _ => (f ρ k).bnd fun x => (ownD x.2.1[i]?).bnd fun kd => (dctD x.1).bnd fun e => if kd.1.length + e.1.length ≤ sizeLine then some (.nx, x.2.1.set i (.own (.dct (mergeD kd.1 kd.2 e.1 e.2).1 (mergeD kd.1 kd.2 e.1 e.2).2)), x.2.2) else none := by
  have key : ∀ x : D × List Sl × Dk, (match x.2.1[i]?, x.1 with
    | some (.own (.dct ks ds)), .dct ks' ds' => if ks.length + ks'.length ≤ sizeLine then some (Out.nx, x.2.1.set i (.own (.dct (mergeD ks ds ks' ds').1 (mergeD ks ds ks' ds').2)), x.2.2) else none
    | _, _ => none) = (ownD x.2.1[i]?).bnd fun kd => (dctD x.1).bnd fun e => if kd.1.length + e.1.length ≤ sizeLine then some (.nx, x.2.1.set i (.own (.dct (mergeD kd.1 kd.2 e.1 e.2).1 (mergeD kd.1 kd.2 e.1 e.2).2)), x.2.2) else none := fun x => by
    obtain ⟨d, ρ', k'⟩ := x
    unfold ownD dctD
    cases hρ : ρ'[i]? with
    | none => cases d <;> rfl
    | some s =>
      cases s with
      | no => cases d <;> rfl
      | val c => cases d <;> rfl
      | own c => cases c <;> cases d <;> rfl
  unfold sUpd
  cases hρ : ρ[i]? with
  | none => rfl
  | some s =>
    cases s with
    | no => rfl
    | val c => rfl
    | own c => cases c <;> first | rfl | exact congrArg ((f ρ k).bind) (funext key)
end WS
local macro_rules | `(tactic| simp! [$ts,*]) => `(tactic| simp -implicitDefEqProofs only [WS.ap_iSrc, WS.sr_l, WS.sr_t, WS.sr_s, WS.ap_callK, WS.prm_0, WS.r_leI, WS.r_leS, WS.ap_sUpd, WS.ap_disp, WS.ap_run, WS.ap_C, WS.ap_Op, WS.ap_Un, WS.ap_nil, WS.ap_cons, WS.ap_App, WS.ap_And, WS.ap_Or, WS.ap_Not, WS.ap_Not', WS.ap_NotB, WS.ap_If, WS.ap_sNil, WS.ap_sSeq, WS.ap_sRet, WS.ap_sDrop, WS.ap_sIf, WS.ap_sAsg, WS.ap_gSet, WS.ap_call, WS.ap_chain, WS.ap_pair, WS.wp_nil, WS.wp_cons, WS.ap_comp, WS.ap_for, WS.ap_iApp, WS.ap_iSeq, WS.sq_lst, WS.sq_tup, WS.it0, WS.it1, WS.it2, WS.it3, WS.il0, WS.il1, WS.il2, WS.il3, WS.fo_nx, WS.fo_ct, WS.fo_bk, WS.fo_rt, WS.bm_t, WS.bm_f, WS.om_nx, WS.om_rt, WS.om_bk, WS.om_ct, WS.fin_nx, WS.fin_rt, WS.bnd_some, WS.bnd_none, WS.mpd_some, WS.mpd_none, Option.bind_some, Option.map_some, Option.bind_none, Option.map_none, List.length_cons, List.length_nil, Nat.zero_add, Nat.reduceAdd, reduceIte, Nat.reduceEqDiff, Nat.reduceLeDiff, WS.osm_int, WS.ap_oNone, WS.ap_oSome, WS.ap_Sl, WS.ap_app, WS.ap_ext, WS.ap_ownL, WS.ow_l, WS.ow_d, WS.ls_l, WS.sl_to1, WS.sl_from1, WS.r_rev, WS.r_lstS, WS.r_tupS, WS.isi_non_int, WS.isi_non_bool, WS.isi_non_str, WS.isi_non_tuple, WS.isi_non_list, WS.isi_non_dict, WS.isi_bl_int, WS.isi_bl_bool, WS.isi_bl_str, WS.isi_bl_tuple, WS.isi_bl_list, WS.isi_bl_dict, WS.isi_int_int, WS.isi_int_bool, WS.isi_int_str, WS.isi_int_tuple, WS.isi_int_list, WS.isi_int_dict, WS.isi_str_int, WS.isi_str_bool, WS.isi_str_str, WS.isi_str_tuple, WS.isi_str_list, WS.isi_str_dict, WS.isi_tup_int, WS.isi_tup_bool, WS.isi_tup_str, WS.isi_tup_tuple, WS.isi_tup_list, WS.isi_tup_dict, WS.isi_lst_int, WS.isi_lst_bool, WS.isi_lst_str, WS.isi_lst_tuple, WS.isi_lst_list, WS.isi_lst_dict, WS.isi_dct_int, WS.isi_dct_bool, WS.isi_dct_str, WS.isi_dct_tuple, WS.isi_dct_list, WS.isi_dct_dict, WS.r_lt, WS.r_le, WS.r_gt, WS.r_ge, WS.r_add, WS.r_addIB, WS.r_addBI, WS.r_sub, WS.r_subIB, WS.r_subBI, WS.r_neg, WS.r_eqI, WS.r_neI, WS.r_eqB, WS.r_neB, WS.r_eqBI, WS.r_eqS, WS.r_neS, WS.r_eqT0, WS.r_neT0, WS.r_eqL0, WS.r_neL0, WS.r_isB, WS.r_isnB, WS.r_isN, WS.r_isnN, WS.r_lenT, WS.r_lenL, WS.r_min, WS.r_intI, WS.r_intB, WS.r_tupL, WS.r_lstT, WS.r_lstL, Bool.not_true, Bool.not_false, Bool.not_not, decide_true, decide_false, WS.bm_b, decide_eq_true_eq, Bool.not_eq_true', decide_eq_false_iff_not, Bool.false_eq_true, if_true, if_false, WS.ap_ownD0, WS.kd_i, WS.kd_s, WS.ap_put, WS.ap_oget, WS.ap_oin, WS.ap_osort, Int.cast_ofNat_Int, eq_self, Int.reduceEq, Int.reduceLT, Int.reduceLE, not_true_eq_false, not_false_eq_true, Bool.true_and, Bool.false_and, WS.st0_c, WS.st0_n, WS.st0_0, WS.vv_0, WS.vo_0, WS.ix_0, WS.sx_0, WS.vv_1, WS.vo_1, WS.ix_1, WS.sx_1, WS.vv_2, WS.vo_2, WS.ix_2, WS.sx_2, WS.vv_3, WS.vo_3, WS.ix_3, WS.sx_3, WS.vv_4, WS.vo_4, WS.ix_4, WS.sx_4, WS.vv_5, WS.vo_5, WS.ix_5, WS.sx_5, WS.vv_6, WS.vo_6, WS.ix_6, WS.sx_6, WS.vv_7, WS.vo_7, WS.ix_7, WS.sx_7, WS.vv_8, WS.vo_8, WS.ix_8, WS.sx_8, WS.vv_9, WS.vo_9, WS.ix_9, WS.sx_9, WS.vv_10, WS.vo_10, WS.ix_10, WS.sx_10, WS.vv_11, WS.vo_11, WS.ix_11, WS.sx_11, WS.vv_12, WS.vo_12, WS.ix_12, WS.sx_12, WS.vv_13, WS.vo_13, WS.ix_13, WS.sx_13, WS.vv_14, WS.vo_14, WS.ix_14, WS.sx_14, WS.vv_15, WS.vo_15, WS.ix_15, WS.sx_15, WS.vv_16, WS.vo_16, WS.ix_16, WS.sx_16, WS.vv_17, WS.vo_17, WS.ix_17, WS.sx_17, WS.vv_18, WS.vo_18, WS.ix_18, WS.sx_18, WS.vv_19, WS.vo_19, WS.ix_19, WS.sx_19, WS.vv_20, WS.vo_20, WS.ix_20, WS.sx_20, WS.vv_21, WS.vo_21, WS.ix_21, WS.sx_21, WS.vv_22, WS.vo_22, WS.ix_22, WS.sx_22, WS.vv_23, WS.vo_23, WS.ix_23, WS.sx_23, WS.vv_24, WS.vo_24, WS.ix_24, WS.sx_24, $ts,*])
namespace WS
open PySem PySem.Spec PyProof.Rows L2
mutual
def mx : D → Nat
  | .str x => x.length
  | .tup xs | .lst xs => max xs.length (mxs xs)
  | _ => 0
def mxs : List D → Nat
  | [] => 0
  | x :: r => max (mx x) (mxs r)
end
mutual
def bk : D → Nat
  | .str x => x.length
  | .tup xs | .lst xs => bks xs
  | _ => 0
def bks : List D → Nat
  | [] => 0
  | x :: r => bk x + 1 + bks r
end
theorem mxs_le {l : List D} {n : Nat} : mxs l ≤ n ↔ ∀ d ∈ l, mx d ≤ n := by
  induction l with
  | nil => simp [mxs]
  | cons x r ih => simp [mxs, Nat.max_le, ih]
theorem mx_tup {xs : List D} {n : Nat} : mx (.tup xs) ≤ n ↔ xs.length ≤ n ∧ ∀ d ∈ xs, mx d ≤ n := by
  simp only [mx, Nat.max_le, mxs_le]
mutual
theorem toR_bk {M : Nat} (hM : M ≤ 10 ^ 55) : ∀ {d : D}, lf M d = true → ∀ p, toR d = some p → p.bulk ≤ bk d
  | .non, _, p, e => by simp only [toR, Option.some.injEq] at e; subst e; exact Nat.le_refl _
  | .bl b, _, p, e => by simp only [toR, Option.some.injEq] at e; subst e; exact Nat.le_refl _
  | .int i, _, p, e => by simp only [toR, Option.some.injEq] at e; subst e; exact Nat.le_refl _
  | .str x, _, p, e => by simp only [toR, Option.some.injEq] at e; subst e; exact Nat.le_refl _
  | .tup xs, h, p, e => by
    have h' : lfs M xs = true := by simpa only [lf] using h
    simp only [toR, Option.map_eq_some_iff] at e
    obtain ⟨q, e1, rfl⟩ := e
    have := toRs_bk hM h' q e1
    simp only [PyData.bulk, bk]; exact this
  | .lst xs, h, p, e => by
    have h' : lfs M xs = true := by simpa only [lf] using h
    simp only [toR, Option.map_eq_some_iff] at e
    obtain ⟨q, e1, rfl⟩ := e
    have := toRs_bk hM h' q e1
    simp only [PyData.bulk, bk]; exact this
  | .dct ks vs, h, p, e => by
    have e' : ks.isEmpty = true ∧ vs.isEmpty = true := by simpa only [lf, Bool.and_eq_true] using h
    have h1 := List.isEmpty_iff.mp e'.1
    have h2 := List.isEmpty_iff.mp e'.2
    subst h1 h2
    have : p = .dict [] := by
      simp only [toR, toRs] at e
      cases e; rfl
    subst this
    exact Nat.le_refl _
  | .rdl _, h, _, _ => by simp only [lf] at h; cases h
  | .ins _ _ _, h, _, _ => by simp only [lf] at h; cases h
  | .ty _, h, _, _ => by simp only [lf] at h; cases h
  | .obj _, h, _, _ => by simp only [lf] at h; cases h
  | .fn _, h, _, _ => by simp only [lf] at h; cases h
  | .loc _, h, _, _ => by simp only [lf] at h; cases h
  | .deck, h, _, _ => by simp only [lf] at h; cases h
theorem toRs_bk {M : Nat} (hM : M ≤ 10 ^ 55) : ∀ {l : List D}, lfs M l = true → ∀ ps, toRs l = some ps → PyData.bulkAll ps ≤ bks l
  | [], _, ps, e => by simp only [toRs, Option.some.injEq] at e; subst e; exact Nat.le_refl _
  | x :: r, h, ps, e => by
    have h' : lf M x = true ∧ lfs M r = true := by simpa only [lfs, Bool.and_eq_true] using h
    simp only [toRs, Option.bind_eq_some_iff, Option.map_eq_some_iff] at e
    obtain ⟨p, e1, q, e2, rfl⟩ := e
    have h1 := toR_bk hM h'.1 p e1
    have h2 := toRs_bk hM h'.2 q e2
    simp only [PyData.bulkAll, bks]; omega
end
structure Bd (M W P X : Nat) (d : D) : Prop where
  l : lf M d = true
  w : bk d ≤ W
  p : dpt d ≤ P
  x : mx d ≤ X
theorem Bd.mono {M W P X M' W' P' X' : Nat} {d : D} (h : Bd M W P X d) (h1 : M ≤ M') (h2 : W ≤ W') (h3 : P ≤ P') (h4 : X ≤ X') : Bd M' W' P' X' d :=
  ⟨lf_mono h1 h.l, Nat.le_trans h.w h2, Nat.le_trans h.p h3, Nat.le_trans h.x h4⟩
section
variable {M W P X : Nat}
theorem Bd.len {xs : List D} (h : Bd M W P X (.tup xs)) : xs.length ≤ X := (mx_tup.mp h.x).1
end
end WS
namespace WS
open PySem PySem.Spec PyProof.Rows L2
theorem small_lineE {n : Nat} (h : n ≤ 1000) : (n ≤ sizeLine) = True := eq_true (by rw [sizeLine_eq]; omega)
end WS
namespace WS
open PySem PySem.Spec PyProof.Rows L2
inductive Rs (α : Type) where
  | ok (a : α)
  | ex (C : Str) (ns : List Str) (ds : List D)
abbrev EX := List Sl → Dk → Option (Rs D × List Sl × Dk)
abbrev AX := List Sl → Dk → Option (Rs (List D) × List Sl × Dk)
/-- then, unless an exception is in the air -/
def bx {α β : Type} (r : Option (Rs α × List Sl × Dk)) (f : α → List Sl → Dk → Option (Rs β × List Sl × Dk)) (_ : Tg1 f := ⟨⟩) : Option (Rs β × List Sl × Dk) := r.bind fun x => match x.1 with
  | .ok a => f a x.2.1 x.2.2
  | .ex C ns ds => some (.ex C ns ds, x.2.1, x.2.2)
def bxs (r : Option (Rs D × List Sl × Dk)) (f : D → List Sl → Dk → Option (Out × List Sl × Dk)) (_ : Tg1 f := ⟨⟩) : Option (Out × List Sl × Dk) := r.bind fun x => match x.1 with
  | .ok a => f a x.2.1 x.2.2
  | .ex C ns ds => some (.ex C ns ds, x.2.1, x.2.2)
def xE (a : E) : EX := fun ρ k => (a ρ k).bind fun x => some (.ok x.1, x.2.1, x.2.2)
def xA (a : EL) : AX := fun ρ k => (a ρ k).bind fun x => some (.ok x.1, x.2.1, x.2.2)
def xUn (g : D → Option D) (a : EX) : EX := fun ρ k => bx (a ρ k) fun d ρ k => (g d).bind fun z => some (.ok z, ρ, k)
def axCons (a : EX) (b : AX) : AX := fun ρ k => bx (a ρ k) fun d ρ k => bx (b ρ k) fun ds ρ k => some (.ok (d :: ds), ρ, k)
def xApp (g : List D → Option D) (a : AX) : EX := fun ρ k => bx (a ρ k) fun ds ρ k => (g ds).bind fun z => some (.ok z, ρ, k)
/-- where nothing is raised -/
def eOk (a : EX) : E := fun ρ k => (a ρ k).bind fun x => match x.1 with
  | .ok d => some (d, x.2.1, x.2.2)
  | .ex _ _ _ => none
def sAsgX (g : Tg) (e : EX) : SS := fun ρ k => bxs (e ρ k) fun d ρ k => (g d ρ).bind fun ρ' => some (.nx, ρ', k)
def sRetX (e : EX) : SS := fun ρ k => bxs (e ρ k) fun d ρ k => some (.rt d, ρ, k)
def sDropX (e : EX) : SS := fun ρ k => bxs (e ρ k) fun d ρ k => some (.nx, ρ, k)
abbrev FnX := List D → Dk → Option (Rs D × Dk)
def spX (K : PySem.W.Frag) (n : Nat) (f : FnX) : Sp := fun vs H Q E => vs.length = n ∧ ∃ S F ds dk r dk', Rep K [] H S F [] dk ∧ RpL K S vs ds ∧ f ds dk = some (r, dk') ∧
  match r with
  | .ok d => ∀ v H' S', Le S S' → Rep K [] H' S' F [] dk' → Rp K S' v d → Q v H'
  | .ex C ns es => ∀ H' S' cls d, Le S S' → Rep K [] H' S' F [] dk' → ExRp K S' C ns es cls d → E cls d H'
def finX (o : Out × List Sl × Dk) : Option (Rs D × Dk) := match o.1 with
  | .rt d => some (.ok d, o.2.2)
  | .nx => some (.ok .non, o.2.2)
  | .ex C ns ds => some (.ex C ns ds, o.2.2)
  | _ => none
def runX (n : Nat) (body : SS) : FnX := fun ds k => (body (st0 n ds) k).bind finX
def xCallF (n : Nat) (f : FnX) (a : EL) : EX := fun ρ k => (a ρ k).bind fun x => if x.1.length = n then (f x.1 x.2.2).bind fun y => some (y.1, x.2.1, y.2) else none
end WS
namespace WS
open PySem PySem.Spec PyProof.Rows L2
def sRaise (nm f : Str) (okd : D → Bool) (e : E) : SS := fun ρ k => (e ρ k).bind fun x => if okd x.1 = true then some (.ex nm [f] [x.1], x.2.1, x.2.2) else none
end WS
namespace WS
open PySem PySem.Spec PyProof.Rows L2
def isEx : Out → Bool
  | .ex _ _ _ => true
  | _ => false
def sTry (yes : List (Str × Bool)) (i : Nat) (b s : SS) : SS := fun ρ k => (b ρ k).bind fun x => match x.1 with
  | .ex C ns ds => (yes.lookup C).bind fun t => if t = true then (s (x.2.1.set i (.val (.ins C ns ds))) x.2.2).bind fun y => if isEx y.1 = true then none else some (y.1, y.2.1.set i .no, y.2.2) else some x
  | _ => some x
/-- a caught exception is laid into the finished things -/
theorem ExRp.laid {K : PySem.W.Frag} {S : Sx} {C : Str} {ns : List Str} {ds : List D} {cls : Value} {d : Option Addr} {a : Addr} (h : ExRp K S C ns ds cls d) (hn : S.hp a = none) :
    ∃ Ca, cls = .ref Ca ∧ Rp K (S.add a (exH a Ca d)) (.ref a) (.ins C ns ds) := by
  obtain ⟨Ca, e1, e2, e3, e4⟩ := h
  refine ⟨Ca, e1, ?_⟩
  have l : Le S (S.add a (exH a Ca d)) := ⟨Sub.new hn, fun _ e => e, fun _ _ e => e⟩
  rcases e4 with ⟨rfl, rfl, rfl⟩ | ⟨dd, fs, rfl, e5, e6, e7⟩
  · exact .exc0 Sx.add_at e2 e3
  · exact .exc Sx.add_at e2 e3 (l.s _ _ e5) e6 rfl (e7.mono l)
end WS
namespace WS
open PySem PySem.Spec PyProof.Rows L2
structure InsC (K : PySem.W.Frag) (C : Addr) : Prop where
  ha : PySem.W.findIn K (.ref C) "__class__" = some (some (.builtin "object.__class__"))
  hn : PySem.W.specialIn K (.builtin "object.__class__") "__get__" = some (some (.builtin "getset_descriptor.__get__"))
  ht : PySem.W.takesIn K (.builtin "object.__class__") = some true
  hm : PySem.W.mroIn K C (.type "object") = some true
/-- the instances of a class by its name: they may be asked for their class -/
def ClsK (K : PySem.W.Frag) (C : Addr) : Prop := (excG K C = false ∧ Cls K C ∧ InsC K C) ∨ (excG K C = true ∧ ExcC K C)
theorem ClsN.eq {K : PySem.W.Frag} {nm : Str} {C C' : Addr} (a : ClsN K nm C) (b : ClsN K nm C') : C = C' := by
  unfold ClsN at a b
  rw [a] at b
  cases b; rfl
end WS
namespace WS
open PySem PySem.Spec PyProof.Rows L2
section
variable {K : PySem.W.Frag} {σ : L2.St} {H : Hp} {S : Sx} {F : Hp} {ρ : List Sl} {dk : Dk} {W : WX}
/-- the framed thing has changed, and is finished -/
theorem Rep.done {p : Addr} {o u : HO} (r : Rep K [] H S (upd F p o) [] dk) (ho : ∀ kvs, o ≠ .dK kvs) (hl : ∀ xs, o ≠ .lst xs) (nF : F p = none) : Rep K [] (upd H p u) (S.add p u) F [] dk := by
  have nS : S.hp p = none := r.fs p o upd_same
  have hp : H p = some o := r.fh p o upd_same
  have Fne : ∀ a w, F a = some w → a ≠ p := fun a w e z => by subst z; rw [nF] at e; cases e
  refine ⟨fun a w e => ?_, fun a w e => ?_, fun a w e => ?_, r.len, fun i s e => by simp at e, r.dist, ?_⟩
  · by_cases z : a = p
    · subst z; rw [Sx.add_at] at e; cases e; exact upd_same
    · rw [show (S.add p u).hp a = S.hp a from upd_ne z] at e
      rw [upd_ne z]; exact r.sh _ _ e
  · have ne := Fne a w e
    rw [upd_ne ne]
    exact r.fh a w (by rw [upd_ne ne]; exact e)
  · have ne := Fne a w e
    rw [show (S.add p u).hp a = S.hp a from upd_ne ne]
    exact r.fs a w (by rw [upd_ne ne]; exact e)
  · have q := r.dka
    cases dk with
    | none => exact q
    | some x =>
      obtain ⟨cells, at_, sum, st⟩ := x
      obtain ⟨a, c, q1, q2, q3, q4, q5, q6, q7, q8, q9, q10⟩ := q
      have na : a ≠ p := fun z => by subst z; rw [hp] at q2; cases q2; exact ho _ rfl
      have nc : c ≠ p := fun z => by subst z; rw [hp] at q3; cases q3; exact hl _ rfl
      rw [upd_ne na] at q6
      rw [upd_ne nc] at q7
      exact ⟨a, c, q1, by rw [upd_ne na]; exact q2, by rw [upd_ne nc]; exact q3, by rw [show (S.add p u).hp a = S.hp a from upd_ne na]; exact q4, by rw [show (S.add p u).hp c = S.hp c from upd_ne nc]; exact q5, q6, q7, q8, q9, q10.move ⟨Sub.new nS, fun _ e => e, fun _ _ e => e⟩ rfl fun b u hb z1 z2 z3 z4 _ _ => by
        have nb : b ≠ p := fun z => by subst z; rw [upd_same] at z3; cases z3
        rw [upd_ne nb] at z3
        exact ⟨by rw [upd_ne nb]; exact z1, by rw [show (S.add p _).hp b = S.hp b from upd_ne nb]; exact z2, z3, z4⟩⟩
end
/-- what the text says of it -/
structure DfI (K : PySem.W.Frag) (mg : Str → Option Value) (nm qual : Str) (st : Stmt) (fs : List (Str × Nat)) : Prop where
  ex : ∃ (C fI : Addr) (fd : FuncData), Mk K C fI ∧ mg nm = some (.ref C) ∧ ClsN K nm C ∧ excG K C = false ∧ Fun K "__init__" qual st fI fd ∧ Cls K C ∧ ∀ x ∈ fs, NoAttr K C x.1
end WS
namespace WS
open PySem PySem.Spec PyProof.Rows L2
abbrev RoomQ := L2H.RoomH
structure FnQ (P : Program) (w : World) (K : PySem.W.Frag) (mg : Str → Option Value) (base : Heap) (k : Nat) (f : Addr) (fd : FuncData) (ps : List Str) (sp : Sp) : Prop where
  many : ∀ vs H Q E, sp vs H Q E → vs.length = ps.length
  go : ∀ (A : Around) (outer : List Env) (s : Shared) (H : Hp) (args : Args) (us : List Value) (vs : List V) (Q : VK) (E : XK), A.guards = some [] → RoomQ k A →
    Env0 P w K mg base A outer s H → BindsTo s fd args (ps.zip us) → Vals vs us → sp vs H Q E → codeAny (model P w) A (.call (.ref f) args) (CR CX0 outer P w H s Q E) s
section
variable {P : Program} {w : World} {K : PySem.W.Frag} {mg : Str → Option Value} {base : Heap} {k : Nat} {f : Addr} {fd : FuncData} {ps : List Str} {sp : Sp}
theorem FnQ.up {j : Nat} (F : FnQ P w K mg base j f fd ps sp) (h : j ≤ k) : FnQ P w K mg base k f fd ps sp :=
  { many := F.many, go := fun A outer s H args us vs Q E hg hr e b v q => F.go A outer s H args us vs Q E hg (hr.mono h) e b v q }
end
/-- such a def, under its name -/
structure CwQ (P : Program) (w : World) (K : PySem.W.Frag) (mg : Str → Option Value) (base : Heap) (k : Nat) (x : Str) (n : Nat) (F : Fn) : Prop where
  ex : ∃ (f : Addr) (fd : FuncData) (ps : List Str), FnQ P w K mg base k f fd ps (spS K n F) ∧ mg x = some (.ref f) ∧ PySem.W.keepIn K (.ref f) = true ∧ Binds K fd ps []
section
variable {P : Program} {w : World} {K : PySem.W.Frag} {mg : Str → Option Value} {base : Heap} {k : Nat}
theorem CwQ.up {j k n : Nat} {x : Str} {F : Fn} (c : CwQ P w K mg base j x n F) (h : j ≤ k) : CwQ P w K mg base k x n F := by
  obtain ⟨f, fd, ps, a, b⟩ := c.ex
  exact ⟨f, fd, ps, a.up h, b⟩
end
end WS
namespace WS
open PySem PySem.Spec PyProof.Rows L2
def sRaise0 (nm : Str) : SS := fun ρ k => some (.ex nm [] [], ρ, k)
def KCs (K : PySem.W.Frag) : List Str → Prop
  | [] => True
  | x :: r => (∃ C, ClsN K x C ∧ ClsK K C) ∧ KCs K r
def NAs (K : PySem.W.Frag) (C : Addr) : List (Str × Nat) → Prop
  | [] => True
  | x :: r => PySem.W.findIn K (.ref C) x.1 = some none ∧ NAs K C r
theorem KCs.at {K : PySem.W.Frag} {nm : Str} : ∀ {l : List Str}, KCs K l → nm ∈ l → ∃ C, ClsN K nm C ∧ ClsK K C
  | a :: r, ⟨h, t⟩, hm => by
    rcases List.mem_cons.mp hm with e | hm
    · subst e; exact h
    · exact KCs.at t hm
theorem NAs.all {K : PySem.W.Frag} {C : Addr} : ∀ {l : List (Str × Nat)}, NAs K C l → ∀ x ∈ l, NoAttr K C x.1
  | a :: r, ⟨h0, t⟩, x, h => by
    rcases List.mem_cons.mp h with e | h
    · subst e; exact h0
    · exact NAs.all t x h
end WS
namespace WS
open PySem PySem.Spec PyProof.Rows L2
theorem RoomQ.mono {j k : Nat} {A : Around} (r : RoomQ k A) (h : j ≤ k) : RoomQ j A := L2H.RoomH.mono r h
end WS
namespace WS
open PySem PySem.Spec PyProof.Rows L2
def tre (i : Nat) (y : Out × List Sl × Dk) : Option (Out × List Sl × Dk) := if isEx y.1 = true then none else some (y.1, y.2.1.set i .no, y.2.2)
def trx (yes : List (Str × Bool)) (i : Nat) (s : SS) (x : Out × List Sl × Dk) : Option (Out × List Sl × Dk) := match x.1 with
  | .ex C ns ds => (yes.lookup C).bind fun t => if t = true then (s (x.2.1.set i (.val (.ins C ns ds))) x.2.2).bind (tre i) else some x
  | _ => some x
def rz {α : Type} (okd : D → Bool) (d : D) (o : α) : Option α := if okd d = true then some o else none
def okx (x : Rs D × List Sl × Dk) : Option (D × List Sl × Dk) := match x.1 with
  | .ok d => some (d, x.2.1, x.2.2)
  | .ex _ _ _ => none
section
variable {α β : Type} {ρ : List Sl} {k : Dk} {a : E} {fs : EL} {e : EX} {ax : AX} {g : D → Option D} {gs : List D → Option D} {d : D} {ds es : List D} {C nm f : Str} {ns : List Str} {s b : SS} {n i : Nat} {F : FnX} {tg : Tg} {yes : List (Str × Bool)} {okd : D → Bool}
theorem bx_ok {x : α} {h : α → List Sl → Dk → Option (Rs β × List Sl × Dk)} {t : Tg1 h} : bx (some (.ok x, ρ, k)) h t = h x ρ k := nrfl rfl
theorem bx_ex {h : α → List Sl → Dk → Option (Rs β × List Sl × Dk)} {t : Tg1 h} : bx (some (.ex C ns ds, ρ, k)) h t = some (.ex C ns ds, ρ, k) := nrfl rfl
theorem bx_none {h : α → List Sl → Dk → Option (Rs β × List Sl × Dk)} {t : Tg1 h} : bx none h t = none := nrfl rfl
theorem bxs_ok {h : D → List Sl → Dk → Option (Out × List Sl × Dk)} {t : Tg1 h} : bxs (some (.ok d, ρ, k)) h t = h d ρ k := nrfl rfl
theorem bxs_ex {h : D → List Sl → Dk → Option (Out × List Sl × Dk)} {t : Tg1 h} : bxs (some (.ex C ns ds, ρ, k)) h t = some (.ex C ns ds, ρ, k) := nrfl rfl
theorem bxs_none {h : D → List Sl → Dk → Option (Out × List Sl × Dk)} {t : Tg1 h} : bxs none h t = none := nrfl rfl
theorem ap_xE : xE a ρ k = (a ρ k).bnd fun x => some (.ok x.1, x.2.1, x.2.2) := nrfl rfl
theorem ap_xA : xA fs ρ k = (fs ρ k).bnd fun x => some (.ok x.1, x.2.1, x.2.2) := nrfl rfl
theorem ap_xUn : xUn g e ρ k = bx (e ρ k) fun d ρ k => (g d).bnd fun z => some (.ok z, ρ, k) := nrfl rfl
theorem ap_axCons : axCons e ax ρ k = bx (e ρ k) fun d ρ k => bx (ax ρ k) fun ds ρ k => some (.ok (d :: ds), ρ, k) := nrfl rfl
theorem ap_xApp : xApp gs ax ρ k = bx (ax ρ k) fun ds ρ k => (gs ds).bnd fun z => some (.ok z, ρ, k) := nrfl rfl
theorem ap_xCall : xCallF n F fs ρ k = (fs ρ k).bnd fun x => if x.1.length = n then (F x.1 x.2.2).bnd fun y => some (y.1, x.2.1, y.2) else none := nrfl rfl
theorem ap_eOk : eOk e ρ k = (e ρ k).bnd fun x => okx x := nrfl rfl
theorem ok_ok : okx (.ok d, ρ, k) = some (d, ρ, k) := nrfl rfl
theorem ap_asgX : sAsgX tg e ρ k = bxs (e ρ k) fun d ρ k => (tg d ρ).bnd fun ρ' => some (.nx, ρ', k) := nrfl rfl
theorem ap_retX : sRetX e ρ k = bxs (e ρ k) fun d ρ k => some (.rt d, ρ, k) := nrfl rfl
theorem ap_dropX : sDropX e ρ k = bxs (e ρ k) fun d ρ k => some (.nx, ρ, k) := nrfl rfl
theorem ap_runX : runX n s ds k = (s (st0 n ds) k).bind finX := nrfl rfl
theorem finX_rt : finX (.rt d, ρ, k) = some (.ok d, k) := nrfl rfl
theorem finX_nx : finX (.nx, ρ, k) = some (.ok .non, k) := nrfl rfl
theorem finX_ex : finX (.ex C ns ds, ρ, k) = some (.ex C ns ds, k) := nrfl rfl
theorem om_ex {h : List Sl → Dk → Option (Out × List Sl × Dk)} {q : Tg1 h} : om (.ex C ns ds, ρ, k) h q = some (.ex C ns ds, ρ, k) := nrfl rfl
theorem ap_sTry : sTry yes i b s ρ k = (b ρ k).bnd fun x => trx yes i s x := nrfl rfl
theorem tr_nx : trx yes i s (.nx, ρ, k) = some (.nx, ρ, k) := nrfl rfl
theorem tr_rt : trx yes i s (.rt d, ρ, k) = some (.rt d, ρ, k) := nrfl rfl
theorem tre_nx : tre i (.nx, ρ, k) = some (.nx, ρ.set i .no, k) := nrfl rfl
theorem tre_rt : tre i (.rt d, ρ, k) = some (.rt d, ρ.set i .no, k) := nrfl rfl
theorem ap_sRaise : sRaise nm f okd a ρ k = (a ρ k).bnd fun x => rz okd x.1 (.ex nm [f] [x.1], x.2.1, x.2.2) := nrfl rfl
theorem ap_sRaise0 : sRaise0 nm ρ k = some (.ex nm [] [], ρ, k) := nrfl rfl
end
end WS
local macro_rules | `(tactic| simp! [$ts,*]) => `(tactic| simp -implicitDefEqProofs only [WS.ap_xE, WS.ap_xA, WS.ap_xUn, WS.ap_axCons, WS.ap_xApp, WS.ap_xCall, WS.ap_eOk, WS.ok_ok, WS.ap_asgX, WS.ap_retX, WS.ap_dropX, WS.bx_ok, WS.bx_ex, WS.bx_none, WS.bxs_ok, WS.bxs_ex, WS.bxs_none, WS.ap_runX, WS.finX_rt, WS.finX_nx, WS.finX_ex, WS.ap_sTry, WS.tr_nx, WS.tr_rt, WS.tre_nx, WS.tre_rt, WS.ap_sRaise, WS.ap_sRaise0, WS.om_ex, WS.fo_ex, WS.ap_iSrc, WS.sr_l, WS.sr_t, WS.sr_s, WS.ap_callK, WS.prm_0, WS.r_leI, WS.r_leS, WS.ap_sUpd, WS.ap_disp, WS.ap_run, WS.ap_C, WS.ap_Op, WS.ap_Un, WS.ap_nil, WS.ap_cons, WS.ap_App, WS.ap_And, WS.ap_Or, WS.ap_Not, WS.ap_Not', WS.ap_NotB, WS.ap_If, WS.ap_sNil, WS.ap_sSeq, WS.ap_sRet, WS.ap_sDrop, WS.ap_sIf, WS.ap_sAsg, WS.ap_gSet, WS.ap_call, WS.ap_chain, WS.ap_pair, WS.wp_nil, WS.wp_cons, WS.ap_comp, WS.ap_for, WS.ap_iApp, WS.ap_iSeq, WS.sq_lst, WS.sq_tup, WS.it0, WS.it1, WS.it2, WS.it3, WS.il0, WS.il1, WS.il2, WS.il3, WS.fo_nx, WS.fo_ct, WS.fo_bk, WS.fo_rt, WS.bm_t, WS.bm_f, WS.om_nx, WS.om_rt, WS.om_bk, WS.om_ct, WS.fin_nx, WS.fin_rt, WS.bnd_some, WS.bnd_none, WS.mpd_some, WS.mpd_none, Option.bind_some, Option.map_some, Option.bind_none, Option.map_none, List.length_cons, List.length_nil, Nat.zero_add, Nat.reduceAdd, reduceIte, Nat.reduceEqDiff, Nat.reduceLeDiff, WS.osm_int, WS.ap_oNone, WS.ap_oSome, WS.ap_Sl, WS.ap_app, WS.ap_ext, WS.ap_ownL, WS.ow_l, WS.ow_d, WS.ls_l, WS.sl_to1, WS.sl_from1, WS.r_rev, WS.r_lstS, WS.r_tupS, WS.isi_non_int, WS.isi_non_bool, WS.isi_non_str, WS.isi_non_tuple, WS.isi_non_list, WS.isi_non_dict, WS.isi_bl_int, WS.isi_bl_bool, WS.isi_bl_str, WS.isi_bl_tuple, WS.isi_bl_list, WS.isi_bl_dict, WS.isi_int_int, WS.isi_int_bool, WS.isi_int_str, WS.isi_int_tuple, WS.isi_int_list, WS.isi_int_dict, WS.isi_str_int, WS.isi_str_bool, WS.isi_str_str, WS.isi_str_tuple, WS.isi_str_list, WS.isi_str_dict, WS.isi_tup_int, WS.isi_tup_bool, WS.isi_tup_str, WS.isi_tup_tuple, WS.isi_tup_list, WS.isi_tup_dict, WS.isi_lst_int, WS.isi_lst_bool, WS.isi_lst_str, WS.isi_lst_tuple, WS.isi_lst_list, WS.isi_lst_dict, WS.isi_dct_int, WS.isi_dct_bool, WS.isi_dct_str, WS.isi_dct_tuple, WS.isi_dct_list, WS.isi_dct_dict, WS.r_lt, WS.r_le, WS.r_gt, WS.r_ge, WS.r_add, WS.r_addIB, WS.r_addBI, WS.r_sub, WS.r_subIB, WS.r_subBI, WS.r_neg, WS.r_eqI, WS.r_neI, WS.r_eqB, WS.r_neB, WS.r_eqBI, WS.r_eqS, WS.r_neS, WS.r_eqT0, WS.r_neT0, WS.r_eqL0, WS.r_neL0, WS.r_isB, WS.r_isnB, WS.r_isN, WS.r_isnN, WS.r_lenT, WS.r_lenL, WS.r_min, WS.r_intI, WS.r_intB, WS.r_tupL, WS.r_lstT, WS.r_lstL, Bool.not_true, Bool.not_false, Bool.not_not, decide_true, decide_false, WS.bm_b, decide_eq_true_eq, Bool.not_eq_true', decide_eq_false_iff_not, Bool.false_eq_true, if_true, if_false, WS.ap_ownD0, WS.kd_i, WS.kd_s, WS.ap_put, WS.ap_oget, WS.ap_oin, WS.ap_osort, Int.cast_ofNat_Int, eq_self, Int.reduceEq, Int.reduceLT, Int.reduceLE, not_true_eq_false, not_false_eq_true, Bool.true_and, Bool.false_and, WS.st0_c, WS.st0_n, WS.st0_0, WS.vv_0, WS.vo_0, WS.ix_0, WS.sx_0, WS.vv_1, WS.vo_1, WS.ix_1, WS.sx_1, WS.vv_2, WS.vo_2, WS.ix_2, WS.sx_2, WS.vv_3, WS.vo_3, WS.ix_3, WS.sx_3, WS.vv_4, WS.vo_4, WS.ix_4, WS.sx_4, WS.vv_5, WS.vo_5, WS.ix_5, WS.sx_5, WS.vv_6, WS.vo_6, WS.ix_6, WS.sx_6, WS.vv_7, WS.vo_7, WS.ix_7, WS.sx_7, WS.vv_8, WS.vo_8, WS.ix_8, WS.sx_8, WS.vv_9, WS.vo_9, WS.ix_9, WS.sx_9, WS.vv_10, WS.vo_10, WS.ix_10, WS.sx_10, WS.vv_11, WS.vo_11, WS.ix_11, WS.sx_11, WS.vv_12, WS.vo_12, WS.ix_12, WS.sx_12, WS.vv_13, WS.vo_13, WS.ix_13, WS.sx_13, WS.vv_14, WS.vo_14, WS.ix_14, WS.sx_14, WS.vv_15, WS.vo_15, WS.ix_15, WS.sx_15, WS.vv_16, WS.vo_16, WS.ix_16, WS.sx_16, WS.vv_17, WS.vo_17, WS.ix_17, WS.sx_17, WS.vv_18, WS.vo_18, WS.ix_18, WS.sx_18, WS.vv_19, WS.vo_19, WS.ix_19, WS.sx_19, WS.vv_20, WS.vo_20, WS.ix_20, WS.sx_20, WS.vv_21, WS.vo_21, WS.ix_21, WS.sx_21, WS.vv_22, WS.vo_22, WS.ix_22, WS.sx_22, WS.vv_23, WS.vo_23, WS.ix_23, WS.sx_23, WS.vv_24, WS.vo_24, WS.ix_24, WS.sx_24, $ts,*])
namespace WS
open PySem PySem.Spec PyProof.Rows L2
theorem tuple_mul0 (l : Addr) (items : Array Value) (n : Nat) (dd : Option Addr) (sl : Array (Option Value)) (x : Int) (u : Tok) (c0 : (decide (x < -(2 ^ 63)) || decide (x ≥ 2 ^ 63)) = false) (c1 : (items.isEmpty || x == 1) = false) (c2 : (decide (x ≤ 0) || items.isEmpty) = true) :
    Meets (Builtin.«tuple.__mul__» ⟨[.ref l, .int x u], []⟩) (fun _ R s => s.heap.get? l = some { cls := .type "tuple", dict := dd, data := .seq items n, slots := sl } ∧
      R (.ok (.ret (Value.ref s.heap.objs.size))) { s with heap := s.heap.push { cls := Value.type "tuple", data := Data.seq #[] }, toks := s.toks }) :=
  .of_wp fun prog w A R s h => by
    obtain ⟨hp, g, d, tk, os⟩ := s
    obtain ⟨hl, h⟩ := h
    have f1 := AutoSeq1.idx_int
    wp_walk using wpAny_loadPart' hl
    repeat (first
      | (refine wpAny_ite_false (decide_eq_false (by rw [c0]; exact Bool.false_ne_true)) ?_; wp_walk using wpAny_loadPart' hl)
      | (refine wpAny_ite_false (decide_eq_false (by rw [c1]; exact Bool.false_ne_true)) ?_; wp_walk using wpAny_loadPart' hl)
      | (refine wpAny_ite_true (decide_eq_true c2) ?_; wp_walk using wpAny_loadPart' hl))
    exact ⟨_, rfl, h⟩
theorem tuple_mul1 (l : Addr) (items : Array Value) (n : Nat) (dd : Option Addr) (sl : Array (Option Value)) (x : Int) (u : Tok) (c0 : (decide (x < -(2 ^ 63)) || decide (x ≥ 2 ^ 63)) = false) (c1 : (items.isEmpty || x == 1) = true) :
    Meets (Builtin.«tuple.__mul__» ⟨[.ref l, .int x u], []⟩) (fun _ R s => s.heap.get? l = some { cls := .type "tuple", dict := dd, data := .seq items n, slots := sl } ∧
      R (.ok (.ret (Value.ref l))) s) :=
  .of_wp fun prog w A R s h => by
    obtain ⟨hp, g, d, tk, os⟩ := s
    obtain ⟨hl, h⟩ := h
    have f1 := AutoSeq1.idx_int
    wp_walk using wpAny_loadPart' hl
    repeat (first
      | (refine wpAny_ite_false (decide_eq_false (by rw [c0]; exact Bool.false_ne_true)) ?_; wp_walk using wpAny_loadPart' hl)
      | (refine wpAny_ite_true (decide_eq_true c1) ?_; wp_walk using wpAny_loadPart' hl))
    exact ⟨_, rfl, h⟩
def rRepA (K : PySem.W.Frag) : R2 := fun x y H Q => ∃ l k xs, x = .ref l ∧ y = .int k ∧ SqT K H l xs ∧ -1000000000 ≤ k ∧ k ≤ 1000 ∧ xs.length ≤ 1000 ∧
  (if xs = [] ∨ k = 1 then Q (.ref l) H else ∀ p, H p = none → Q (.ref p) (upd H p (.tup (List.replicate k.toNat xs).flatten)))
section
variable {X : Cx}
theorem op_repA : OpR X (binaryOp .Mult) (rRepA X.K) := by
  intro pins s σ H x y v u Q I rx ry h
  obtain ⟨l, k, xs, rfl, rfl, hT, h0, h2, hz, q⟩ := h
  by_cases hs : xs = [] ∨ k = 1
  · rw [if_pos hs] at q
    cases rx
    obtain ⟨t, rfl⟩ := ry
    obtain ⟨its, r, ⟨⟨cls, dd, data, sl⟩, ho, hc, n, hd⟩, hsz⟩ := I.tuple hT
    simp only at hc hd
    subst hc hd
    have c0 : (decide (k < -(2 ^ 63)) || decide (k ≥ 2 ^ 63)) = false := by
      rw [decide_eq_false (by omega), decide_eq_false (by omega)] <;> rfl
    have c1 : (its.toArray.isEmpty || k == 1) = true := by
      rcases hs with hs | hs
      · subst hs
        have : its = [] := List.eq_nil_of_length_eq_zero (by rw [← r.length]; rfl)
        subst this; rfl
      · subst hs; simp
    exact wpAny_binaryOp_repeat_ref (T := "tuple") (U := "int") (by decide) ⟨_, ho, rfl⟩ (fun s' => typeIs_int s' k t) noFill_tuple_mul F.fills_int_mul F.slot_int_rmul repeat_tuple F.slot_int_index.lookup
      (call_meets F.slot_int_rmul (typeIs_int s k t) F.entry_int_rmul (F.args_int_rmul_2 _ _) (int_rmul_tuple k t l its.toArray n dd sl)
        ⟨ho, rfl, ⟨_, ho, rfl⟩, call_meets F.slot_tuple_mul ⟨_, ho, rfl⟩ F.entry_tuple_mul (F.args_tuple_mul_2 _ _) (tuple_mul1 l its.toArray n dd sl k t c0 c1) ⟨ho, ⟨.ref l, H, I, rfl, q⟩⟩⟩)
  · rw [if_neg hs] at q
    have hne : xs ≠ [] := fun e => hs (.inl e)
    have hk1 : k ≠ 1 := fun e => hs (.inr e)
    by_cases hk : 2 ≤ k
    · exact op_repT pins s σ H _ _ v u Q I rx ry ⟨l, k, xs, rfl, rfl, hT, hne, hk, h2, hz, q⟩
    · have hk0 : k ≤ 0 := by omega
      cases rx
      obtain ⟨t, rfl⟩ := ry
      obtain ⟨its, r, ⟨⟨cls, dd, data, sl⟩, ho, hc, n, hd⟩, hsz⟩ := I.tuple hT
      simp only at hc hd
      subst hc hd
      have hn : its ≠ [] := fun e => hne (by
        have := r.length
        rw [e] at this
        exact List.eq_nil_of_length_eq_zero this)
      have hi : its.toArray.isEmpty = false := by
        cases its with
        | nil => exact absurd rfl hn
        | cons a b => rfl
      have c0 : (decide (k < -(2 ^ 63)) || decide (k ≥ 2 ^ 63)) = false := by
        rw [decide_eq_false (by omega), decide_eq_false (by omega)] <;> rfl
      have c1 : (its.toArray.isEmpty || k == 1) = false := by
        rw [hi, Bool.false_or]
        exact beq_eq_false_iff_ne.mpr hk1
      have c2 : (decide (k ≤ 0) || its.toArray.isEmpty) = true := by
        rw [decide_eq_true hk0]; rfl
      have e0 : (List.replicate k.toNat xs).flatten = [] := by
        rw [show k.toNat = 0 by omega]; rfl
      rw [e0] at q
      refine wpAny_binaryOp_repeat_ref (T := "tuple") (U := "int") (by decide) ⟨_, ho, rfl⟩ (fun s' => typeIs_int s' k t) noFill_tuple_mul F.fills_int_mul F.slot_int_rmul repeat_tuple F.slot_int_index.lookup
        (call_meets F.slot_int_rmul (typeIs_int s k t) F.entry_int_rmul (F.args_int_rmul_2 _ _) (int_rmul_tuple k t l its.toArray n dd sl)
          ⟨ho, rfl, ⟨_, ho, rfl⟩, call_meets F.slot_tuple_mul ⟨_, ho, rfl⟩ F.entry_tuple_mul (F.args_tuple_mul_2 _ _) (tuple_mul0 l its.toArray n dd sl k t c0 c1 c2) ⟨ho, ?_⟩⟩)
      refine ⟨.ref s.heap.objs.size, _, I.laid (t' := s.toks) (o := .tup []) (fun b ob q => Heap.get?_push_of_some _ q) (Nat.le_refl _) ?_, rfl, q _ (I.hok.fresh (Nat.le_refl _))⟩
      exact ⟨Nat.zero_le _, [], .nil, IsTup.new _ _⟩
def gMulB : D → D → Option D
  | .tup xs, .int k => if -1000000000 ≤ k ∧ k ≤ 1000 ∧ xs.length ≤ 1000 then some (.tup (List.replicate k.toNat xs).flatten) else none
  | .lst xs, .int k => if -1000000000 ≤ k ∧ k ≤ 1000 ∧ xs.length ≤ 1000 then some (.lst (List.replicate k.toNat xs).flatten) else none
  | d, e => gMul d e
theorem RpL.rep {K : PySem.W.Frag} {S : Sx} {vs : List V} {ds : List D} (h : RpL K S vs ds) : ∀ n : Nat, RpL K S (List.replicate n vs).flatten (List.replicate n ds).flatten
  | 0 => .nil
  | n + 1 => by
    rw [List.replicate_succ, List.flatten_cons, List.replicate_succ, List.flatten_cons]
    exact h.app (RpL.rep h n)
theorem repl_one {α : Type} (xs : List α) : (List.replicate (1 : Int).toNat xs).flatten = xs := by
  show (List.replicate 1 xs).flatten = xs
  simp
theorem repl_nil {α : Type} (n : Nat) : (List.replicate n ([] : List α)).flatten = [] := by
  induction n with
  | zero => rfl
  | succ n ih => rw [List.replicate_succ, List.flatten_cons, ih]; rfl
theorem x_mulB : OpX X (binaryOp .Mult) gMulB := by
  obtain ⟨r, h1, h2⟩ := x_mul (X := X)
  refine ⟨_, (op_repA.or op_rep).or h1, fun S H x y d e z Q sh rx ry eg q => ?_⟩
  unfold gMulB at eg
  split at eg
  · rename_i xs k
    split at eg
    · rename_i hc
      cases eg
      cases ry
      cases rx with
      | tup hs hr =>
        rename_i a vs
        have hl := hr.length
        refine .inl (.inl ⟨a, k, vs, rfl, rfl, sh.sqT hs, hc.1, hc.2.1, by rw [hl]; exact hc.2.2, ?_⟩)
        split
        · rename_i hh
          refine q _ S H (Grow.refl sh) ?_
          have e1 : (List.replicate k.toNat xs).flatten = xs := by
            rcases hh with hh | hh
            · subst hh
              have : xs = [] := List.eq_nil_of_length_eq_zero (by rw [← hl]; rfl)
              subst this
              exact repl_nil _
            · subst hh; exact repl_one xs
          rw [e1]
          exact .tup hs hr
        · exact fun p hp => q _ _ _ (Grow.add sh hp) (.tup (.inl (.inl Sx.add_at)) ((hr.rep _).mono (Grow.add sh hp).le))
    · cases eg
  · rename_i xs k
    split at eg
    · rename_i hc
      cases eg
      cases ry
      cases rx with
      | lst hs hr =>
        rename_i a vs
        have hl := hr.length
        refine .inl (.inr ⟨a, k, vs, rfl, rfl, sh _ _ hs, by omega, by omega, ?_, fun p hp => q _ _ _ (Grow.add sh hp) (.lst Sx.add_at ((hr.rep _).mono (Grow.add sh hp).le))⟩)
        rw [hl, sizeLine_eq]
        have a1 : xs.length * k.toNat ≤ 1000 * 1000 := Nat.mul_le_mul hc.2.2 (by omega)
        omega
    · cases eg
  · exact .inr (h2 S H x y d e z Q sh rx ry eg q)
end
theorem r_mulT {xs : List D} {k : Int} (h : -1000000000 ≤ k ∧ k ≤ 1000 ∧ xs.length ≤ 1000) : gMulB (.tup xs) (.int k) = some (.tup (List.replicate k.toNat xs).flatten) := if_pos h
theorem r_mulLs {xs : List D} {k : Int} (h : -1000000000 ≤ k ∧ k ≤ 1000 ∧ xs.length ≤ 1000) : gMulB (.lst xs) (.int k) = some (.lst (List.replicate k.toNat xs).flatten) := if_pos h
end WS
namespace WS
open PySem PySem.Spec PyProof.Rows L2
/-- an iterator over a list (true) or a tuple (false); what it goes over -/
def IterB (c : Bool) (h : Heap) (it l : Addr) (k : Nat) : Prop := match c with
  | true => h.IsListIter it l k
  | false => h.IsTupleIter it l k
def SeqB (c : Bool) (h : Heap) (l : Addr) (us : Array Value) : Prop := match c with
  | true => h.IsList l us
  | false => h.IsTuple l us
theorem IterB.there {c : Bool} {h : Heap} {it l : Addr} {k : Nat} (x : IterB c h it l k) : ∃ o, h.get? it = some o ∧ ∀ v, o.data ≠ .cell v := by
  cases c
  · obtain ⟨o, e, _, d⟩ := x; exact ⟨o, e, fun v q => by rw [d] at q; cases q⟩
  · obtain ⟨o, e, _, d⟩ := x; exact ⟨o, e, fun v q => by rw [d] at q; cases q⟩
theorem IterB.at {c : Bool} {h h' : Heap} {it l : Addr} {k : Nat} (x : IterB c h it l k) (f : ∀ o, h.get? it = some o → h'.get? it = some o) : IterB c h' it l k := by
  cases c
  · obtain ⟨o, e, r⟩ := x; exact ⟨o, f o e, r⟩
  · obtain ⟨o, e, r⟩ := x; exact ⟨o, f o e, r⟩
theorem SeqB.at {c : Bool} {h h' : Heap} {l : Addr} {us : Array Value} (x : SeqB c h l us) (f : ∀ o, h.get? l = some o → h'.get? l = some o) : SeqB c h' l us := by
  cases c
  · obtain ⟨o, e, r⟩ := x; exact ⟨o, f o e, r⟩
  · obtain ⟨o, e, r⟩ := x; exact ⟨o, f o e, r⟩
theorem IterB.ex {c : Bool} {h h' : Heap} {it l d : Addr} {k : Nat} (x : IterB c h it l k) (m : Heap.ExtBut d h h') (n : it ≠ d) : IterB c h' it l k := x.at fun o e => m it o n e
theorem SeqB.ex {c : Bool} {h h' : Heap} {l d : Addr} {us : Array Value} (x : SeqB c h l us) (m : Heap.ExtBut d h h') (n : l ≠ d) : SeqB c h' l us := x.at fun o e => m l o n e
section
variable {P : Program} {w : World} {A : Around} {E : Value → Shared → Prop} {s : Shared} {it l : Addr} {i : Nat} {us : Array Value}
/-- a draw that may end -/
theorem draw_more {c : Bool} {v : Value} {Q : Option Value → Shared → Prop} (hi : IterB c s.heap it l i) (hl : SeqB c s.heap l us) (hv : us[i]? = some v)
    (hQ : ∀ h', IterB c h' it l (i + 1) → Heap.SameBut it s.heap h' → Q (some v) { s with heap := h' }) : wpAny (model P w) A (Builtin.SmallTypes.nextOrEnd (.ref it)) Q E s := by
  unfold Builtin.SmallTypes.nextOrEnd
  cases c
  · exact wpAny_bind (wpAny_attempt (RZ.nextOf_tuple_item hi hl hv fun h' a b => wpAny_pure (hQ h' a b)))
  · exact wpAny_bind (wpAny_attempt (wpAny_nextOf_list_item hi hl hv fun h' a b => wpAny_pure (hQ h' a b)))
theorem draw_done {c : Bool} {Q : Option Value → Shared → Prop} (hh : A.handled = none) (hi : IterB c s.heap it l i) (hl : SeqB c s.heap l us) (hv : us[i]? = none)
    (hQ : ∀ h', Heap.ExtBut it s.heap h' → Q none { s with heap := h' }) : wpAny (model P w) A (Builtin.SmallTypes.nextOrEnd (.ref it)) Q E s := by
  unfold Builtin.SmallTypes.nextOrEnd
  have fin : ∀ (h' : Heap) (e : Addr), Heap.ExtBut it s.heap h' → (∃ o, h'.get? e = some o ∧ o.cls = .type "StopIteration") → wpAny (model P w) A (do if ← isInstance (.ref e) (.type "StopIteration") then pure none else throw (.ref e)) Q E { s with heap := h' } := fun h' e k ⟨o, ho, hc⟩ =>
    wpAny_bind (wpAny_isInstance (T := "StopIteration") (b := true) ⟨o, ho, hc⟩ isSubtype_stop (wpAny_pure (hQ h' k)))
  cases c
  · exact wpAny_bind (wpAny_attempt (RZ.nextOf_tuple_end hh hi hl hv fin))
  · exact wpAny_bind (wpAny_attempt (wpAny_nextOf_list_end hh hi hl hv fin))
/-- a strict zip's own object -/
def ZipAt (h : Heap) (z TI TO : Addr) (f0 : Value) : Prop := h.get? z = some { cls := .type "zip", dict := none, data := .fields #[f0, .bool false, .bool true, .ref TI, .ref TO], slots := #[] }
variable {c1 c2 : Bool} {z TI TO i1 i2 l1 l2 : Addr} {k1 k2 : Nat} {xs ys : Array Value} {a b x y : Value}
theorem zipS_item {Q : Value → Shared → Prop} (D : ZipApart z TI TO i1 i2 l1 l2) (hz : ZipAt s.heap z TI TO .none) (hTI : IsPair s.heap TI (.ref i1) (.ref i2)) (hTO : IsPair s.heap TO a b)
    (h1 : IterB c1 s.heap i1 l1 k1) (h2 : IterB c2 s.heap i2 l2 k2) (hl1 : SeqB c1 s.heap l1 xs) (hl2 : SeqB c2 s.heap l2 ys) (hx : xs[k1]? = some x) (hy : ys[k2]? = some y)
    (hQ : ∀ h', ZipAt h' z TI TO (rawInt s.heap.objs.size) → IsPair h' TO x y → IterB c1 h' i1 l1 (k1 + 1) → IterB c2 h' i2 l2 (k2 + 1) → IsPair h' s.heap.objs.size x y → h'.objs.size = s.heap.objs.size + 1 →
      (∀ c o, c ≠ z → c ≠ TO → c ≠ i1 → c ≠ i2 → s.heap.get? c = some o → h'.get? c = some o) → Q (.ref s.heap.objs.size) { s with heap := h' }) :
    wpAny (model P w) A (Builtin.«zip.__next__» ⟨[.ref z], []⟩) (fun f s' => ∃ v, f = .done (.ret v) ∧ Q v s') E s := by
  show wpAny _ _ (field (.ref z) 2 >>= _) _ _ s
  refine wpAny_bind (wpAny_field hz rfl (x := .bool true) rfl ?f2)
  show wpAny _ _ (field (.ref z) 3 >>= _) _ _ s
  refine wpAny_bind (wpAny_field hz rfl (x := .ref TI) rfl (wpAny_bind (wpAny_seqItems hTI rfl ?f3)))
  show wpAny _ _ (Builtin.SmallTypes.ownedTupleIsFree (.ref z) >>= _) _ _ s
  unfold Builtin.SmallTypes.ownedTupleIsFree
  refine wpAny_bind (wpAny_bind (wpAny_field hz rfl (x := .none) rfl (wpAny_pure ?f4)))
  simp only [if_true]
  refine wpAny_bind (wpAny_rule (wpAny_bind (wpAny_field hz rfl (x := .ref TO) rfl ?f5)))
  refine wpAny_bind (wpAny_setField_rec hz (by simp) fun g1 z1 m1 => wpAny_bind ?f6)
  have z1 : ZipAt g1 z TI TO .ellipsis := z1
  simp only [List.zipIdx_cons, List.zipIdx_nil, List.forIn_cons, List.forIn_nil]
  have keep1 : ∀ {c o}, c ≠ z → s.heap.get? c = some o → g1.get? c = some o := fun n e => m1.extBut _ _ n e
  refine wpAny_bind (wpAny_bind (wpAny_onRaise ?d1))
  show wpAny _ _ (Builtin.SmallTypes.nextOrEnd (.ref i1)) _ _ _
  refine draw_more (h1.ex m1.extBut D.i1z) (hl1.ex m1.extBut D.l1z) hx fun g2 j1 m2 => ?e1
  have t2 : IsPair g2 TO a b := m2.extBut _ _ D.TOi1 (keep1 D.TOz hTO)
  refine wpAny_bind (wpAny_seqItems t2 rfl (wpAny_bind (wpAny_updateSeq_pair t2 fun g3 t3 m3 => wpAny_bind (wpAny_letGo (wpAny_pure ?e2)))))
  have t3 : IsPair g3 TO x b := t3
  refine wpAny_bind (wpAny_bind (wpAny_onRaise ?d2))
  show wpAny _ _ (Builtin.SmallTypes.nextOrEnd (.ref i2)) _ _ _
  refine draw_more (((h2.ex m1.extBut D.i2z).ex m2.extBut D.i12.symm).ex m3.extBut D.TOi2.symm) (((hl2.ex m1.extBut D.l2z).ex m2.extBut D.l2i1).ex m3.extBut D.l2TO) hy fun g4 j2 m4 => ?e3
  have t4 : IsPair g4 TO x b := m4.extBut _ _ D.TOi2 t3
  refine wpAny_bind (wpAny_seqItems t4 rfl (wpAny_bind (wpAny_updateSeq_pair t4 fun g5 t5 m5 => wpAny_bind (wpAny_letGo (wpAny_pure (wpAny_pure ?e4))))))
  have t5 : IsPair g5 TO x y := t5
  refine wpAny_bind (wpAny_seqItems t5 rfl (wpAny_bind (wpAny_newTuple ?e5)))
  have sz5 : g5.objs.size = s.heap.objs.size := by rw [m5.1, m4.1, m3.1, m2.1, m1.1]
  have z5 : ZipAt g5 z TI TO .ellipsis := m5.extBut _ _ D.TOz.symm (m4.extBut _ _ D.i2z.symm (m3.extBut _ _ D.TOz.symm (m2.extBut _ _ D.i1z.symm z1)))
  have k5 : ∀ c o, c ≠ z → c ≠ TO → c ≠ i1 → c ≠ i2 → s.heap.get? c = some o → g5.get? c = some o := fun c o c1 c2 c3 c4 e =>
    m5.extBut _ _ c2 (m4.extBut _ _ c4 (m3.extBut _ _ c2 (m2.extBut _ _ c3 (keep1 c1 e))))
  have j1' : IterB c1 g5 i1 l1 (k1 + 1) := ((j1.ex m3.extBut D.TOi1.symm).ex m4.extBut D.i12).ex m5.extBut D.TOi1.symm
  have j2' : IterB c2 g5 i2 l2 (k2 + 1) := j2.ex m5.extBut D.TOi2.symm
  have zlt : z < g5.objs.size := Heap.lt_size z5
  show wpAny _ _ (Builtin.SmallTypes.ownedTupleHandOut (.ref z) (.ref g5.objs.size) >>= _) _ _ _
  unfold Builtin.SmallTypes.ownedTupleHandOut
  have z6 : ZipAt (g5.push { cls := .type "tuple", data := .seq #[x, y] }) z TI TO .ellipsis := Heap.get?_push_of_some _ z5
  refine wpAny_bind (wpAny_bind (wpAny_setField_rec z6 (by simp) fun g7 z7 m7 => ?e6))
  have z7 : ZipAt g7 z TI TO (rawInt g5.objs.size) := z7
  refine wpAny_setField_rec z7 (by simp) fun g8 z8 m8 => ?e7
  have z8 : ZipAt g8 z TI TO (rawInt g5.objs.size) := z8
  have up : ∀ c o, c ≠ z → g5.get? c = some o → g8.get? c = some o := fun c o n e => m8.extBut _ _ n (m7.extBut _ _ n (Heap.get?_push_of_some _ e))
  have new8 : IsPair g8 g5.objs.size x y := m8.extBut _ _ (Nat.ne_of_gt zlt) (m7.extBut _ _ (Nat.ne_of_gt zlt) (Heap.get?_push_size _ rfl))
  have sz8 : g8.objs.size = g5.objs.size + 1 := by rw [m8.1, m7.1, Heap.size_push]
  rw [sz5] at z8 new8 sz8
  refine wpAny_pure ⟨_, rfl, ?e8⟩
  show Q (.ref g5.objs.size) _
  rw [sz5]
  exact hQ g8 z8 (up _ _ D.TOz t5) (j1'.at fun o e => up _ o D.i1z e) (j2'.at fun o e => up _ o D.i2z e) new8 sz8 fun c o c1 c2 c3 c4 e => up c o c1 (k5 c o c1 c2 c3 c4 e)
/-- both at their ends -/
theorem zipS_end {Q : PySem.Fin → Shared → Prop} (hh : A.handled = none) (D : ZipApart z TI TO i1 i2 l1 l2) (hz : ZipAt s.heap z TI TO .none) (hTI : IsPair s.heap TI (.ref i1) (.ref i2)) (hTO : IsPair s.heap TO a b)
    (h1 : IterB c1 s.heap i1 l1 k1) (h2 : IterB c2 s.heap i2 l2 k2) (hl1 : SeqB c1 s.heap l1 xs) (hl2 : SeqB c2 s.heap l2 ys) (hx : xs[k1]? = none) (hy : ys[k2]? = none)
    (hE : ∀ h' e, (∀ c o, c ≠ z → c ≠ TO → c ≠ i1 → c ≠ i2 → s.heap.get? c = some o → h'.get? c = some o) → (∃ o, h'.get? e = some o ∧ o.cls = .type "StopIteration") → E (.ref e) { s with heap := h' }) :
    wpAny (model P w) A (Builtin.«zip.__next__» ⟨[.ref z], []⟩) Q E s := by
  show wpAny _ _ (field (.ref z) 2 >>= _) _ _ s
  refine wpAny_bind (wpAny_field hz rfl (x := .bool true) rfl ?f2)
  show wpAny _ _ (field (.ref z) 3 >>= _) _ _ s
  refine wpAny_bind (wpAny_field hz rfl (x := .ref TI) rfl (wpAny_bind (wpAny_seqItems hTI rfl ?f3)))
  show wpAny _ _ (Builtin.SmallTypes.ownedTupleIsFree (.ref z) >>= _) _ _ s
  unfold Builtin.SmallTypes.ownedTupleIsFree
  refine wpAny_bind (wpAny_bind (wpAny_field hz rfl (x := .none) rfl (wpAny_pure ?f4)))
  simp only [if_true]
  refine wpAny_bind (wpAny_rule (wpAny_bind (wpAny_field hz rfl (x := .ref TO) rfl ?f5)))
  refine wpAny_bind (wpAny_setField_rec hz (by simp) fun g1 z1 m1 => wpAny_bind ?f6)
  have z1 : ZipAt g1 z TI TO .ellipsis := z1
  simp only [List.zipIdx_cons, List.zipIdx_nil, List.forIn_cons, List.forIn_nil]
  refine wpAny_bind (wpAny_bind (wpAny_onRaise ?d1))
  show wpAny _ _ (Builtin.SmallTypes.nextOrEnd (.ref i1)) _ _ _
  refine draw_done hh (h1.ex m1.extBut D.i1z) (hl1.ex m1.extBut D.l1z) hx fun g2 m2 => ?e1
  have z2 : ZipAt g2 z TI TO .ellipsis := m2 _ _ D.i1z.symm z1
  refine wpAny_bind (wpAny_setField_rec z2 (by simp) fun g3 z3 m3 => ?e2)
  refine wpAny_bind (wpAny_bind ?e3)
  simp only [List.drop_succ_cons, List.drop_zero, List.zipIdx_cons, List.zipIdx_nil, List.forIn_cons, List.forIn_nil]
  have keep3 : ∀ {c o}, c ≠ z → c ≠ i1 → s.heap.get? c = some o → g3.get? c = some o := fun n n1 e => m3.extBut _ _ n (m2 _ _ n1 (m1.extBut _ _ n e))
  have hl2' : SeqB c2 g3 l2 ys := by
    exact hl2.at fun o e => keep3 D.l2z D.l2i1 e
  have h2' : IterB c2 g3 i2 l2 k2 := h2.at fun o e => keep3 D.i2z D.i12.symm e
  refine wpAny_bind (wpAny_bind (draw_done hh h2' hl2' hy fun g4 m4 => ?e4))
  show wpAny _ _ (pure _) _ _ _
  refine wpAny_pure (wpAny_pure (wpAny_bind (wpAny_rule ?e5)))
  show wpAny _ _ (newExc (.type "StopIteration") [] >>= raiseNew) _ _ _
  refine wpAny_bind ?e6
  simp only [newExc, newTuple]
  refine wpAny_bind (wpAny_newObj_type ?e7 (by size_fits))
  refine wpAny_bind (m := firstArgMember _ _) (wpAny_of_eq (a := Value.none) (by first | rfl | (simp only [firstArgMember]; rfl)) (wpAny_newObj_type ?e8 (by size_fits)))
  unfold raiseNew
  refine wpAny_bind (wpAny_handled ?e9)
  rw [hh]
  refine wpAny_bind (wpAny_pure (wpAny_throw (hE _ _ (fun c o n1 n2 n3 n4 e => ?e10) ⟨_, Heap.get?_push_size _ rfl, rfl⟩)))
  exact Heap.get?_push_of_some _ (Heap.get?_push_of_some _ (m4 _ _ n4 (keep3 n1 n3 e)))
theorem zipS_ty (hz : ZipAt s.heap z TI TO a) : s.TypeIs (.ref z) "zip" := ⟨_, hz, rfl⟩
theorem nextS_item {Q : Option Value → Shared → Prop} (D : ZipApart z TI TO i1 i2 l1 l2) (hz : ZipAt s.heap z TI TO .none) (hTI : IsPair s.heap TI (.ref i1) (.ref i2)) (hTO : IsPair s.heap TO a b)
    (h1 : IterB c1 s.heap i1 l1 k1) (h2 : IterB c2 s.heap i2 l2 k2) (hl1 : SeqB c1 s.heap l1 xs) (hl2 : SeqB c2 s.heap l2 ys) (hx : xs[k1]? = some x) (hy : ys[k2]? = some y)
    (hQ : ∀ h', ZipAt h' z TI TO (rawInt s.heap.objs.size) → IsPair h' TO x y → IterB c1 h' i1 l1 (k1 + 1) → IterB c2 h' i2 l2 (k2 + 1) → IsPair h' s.heap.objs.size x y → h'.objs.size = s.heap.objs.size + 1 →
      (∀ c o, c ≠ z → c ≠ TO → c ≠ i1 → c ≠ i2 → s.heap.get? c = some o → h'.get? c = some o) → Q (some (.ref s.heap.objs.size)) { s with heap := h' }) : wpAny (model P w) A (pyNext (.ref z)) Q E s := by
  have hT := zipS_ty hz
  unfold pyNext
  refine wpAny_bind (wpAny_attempt (wpAny_callSpecial?_slot (name := Str.ofString "__next__") hT F.slot_zip_next (wpAny_call_entry F.slot_zip_next hT F.entry_zip_next ?step (F.args_zip_next_1 _))))
  exact zipS_item D hz hTI hTO h1 h2 hl1 hl2 hx hy fun h' q1 q2 q3 q4 q5 q6 q7 => wpAny_pure (hQ h' q1 q2 q3 q4 q5 q6 q7)
theorem nextS_end {Q : Option Value → Shared → Prop} (hh : A.handled = none) (D : ZipApart z TI TO i1 i2 l1 l2) (hz : ZipAt s.heap z TI TO .none) (hTI : IsPair s.heap TI (.ref i1) (.ref i2)) (hTO : IsPair s.heap TO a b)
    (h1 : IterB c1 s.heap i1 l1 k1) (h2 : IterB c2 s.heap i2 l2 k2) (hl1 : SeqB c1 s.heap l1 xs) (hl2 : SeqB c2 s.heap l2 ys) (hx : xs[k1]? = none) (hy : ys[k2]? = none)
    (hQ : ∀ h', (∀ c o, c ≠ z → c ≠ TO → c ≠ i1 → c ≠ i2 → s.heap.get? c = some o → h'.get? c = some o) → Q none { s with heap := h' }) : wpAny (model P w) A (pyNext (.ref z)) Q E s := by
  have hT := zipS_ty hz
  unfold pyNext
  refine wpAny_bind (wpAny_attempt (wpAny_callSpecial?_slot (name := Str.ofString "__next__") hT F.slot_zip_next (wpAny_call_entry F.slot_zip_next hT F.entry_zip_next ?step (F.args_zip_next_1 _))))
  refine zipS_end hh D hz hTI hTO h1 h2 hl1 hl2 hx hy fun h' e k ⟨o, ho, hc⟩ => ?_
  exact wpAny_bind (wpAny_isInstance (T := "StopIteration") (b := true) ⟨o, ho, hc⟩ isSubtype_stop (wpAny_pure (hQ h' k)))
theorem goS {elts : List Expr} {kk : Nat} {pos : Pos} {T : Addr} {Q : Unit → Shared → Prop} (hz : ZipAt s.heap z TI TO (rawInt T)) (hQ : ∀ h', ZipAt h' z TI TO .none → Heap.SameBut z s.heap h' → Q () { s with heap := h' }) :
    wpAny (model P w) A (letOwnedTupleGo (.Tuple elts kk pos) (.ref z) (.ref T)) Q E s := by
  unfold letOwnedTupleGo
  refine wpAny_bind (wpAny_load hz ?l)
  show wpAny _ _ (if (["enumerate", "zip", "dict_itemiterator", "dict_reverseitemiterator", "odict_iterator", "itertools.zip_longest", "itertools.pairwise"].contains "zip" && (#[rawInt T, .bool false, .bool true, .ref TI, .ref TO] : Array Value)[0]? == some (rawInt T)) = true then _ else _) Q E s
  rw [if_pos (by simp)]
  refine wpAny_bind (wpAny_rule ?r)
  exact wpAny_setField_rec hz (by simp) fun h' q1 q2 => hQ h' q1 q2
theorem iterS {Q : Value → Shared → Prop} (hz : ZipAt s.heap z TI TO a) (h : Q (.ref z) s) : wpAny (model P w) A (pyIter (.ref z)) Q E s := by
  have hT := zipS_ty hz
  refine wpAny_pyIter_slot hT F.slot_zip_iter (wpAny_call_entry F.slot_zip_iter hT F.entry_zip_iter ?i (F.args_zip_iter_1 _))
  exact wpAny_pure ⟨_, rfl, "zip", _, hT, F.slot_zip_next.lookup, h⟩
end
end WS
namespace WS
open PySem PySem.Spec PyProof.Rows L2
/-- the items of two lists in pairs; both end at once -/
def SqB (c : Bool) (K : PySem.W.Frag) (H : Hp) (a : Addr) (xs : List V) : Prop := match c with
  | true => SqL K H a xs
  | false => SqT K H a xs
def ItzS (c1 c2 : Bool) (K : PySem.W.Frag) (a b : Addr) : It :=
  ⟨fun i H => ∃ (xs ys : List V) (x y : V), SqB c1 K H a xs ∧ SqB c2 K H b ys ∧ xs[i]? = some x ∧ ys[i]? = some y,
    fun i H v H' => ∃ T x y, v = .ref T ∧ H T = none ∧ H' = upd H T (.tup [x, y]) ∧ (∀ xs, SqB c1 K H a xs → xs[i]? = some x) ∧ ∀ ys, SqB c2 K H b ys → ys[i]? = some y,
    fun i H => ∃ xs ys : List V, SqB c1 K H a xs ∧ SqB c2 K H b ys ∧ xs.length ≤ i ∧ ys.length ≤ i⟩
theorem sqb_at {X : Cx} {pins : List (Addr × Obj)} {σ : L2.St} {H : Hp} {s : Shared} {c : Bool} {a : Addr} {xs : List V} (I : Inv X pins σ H s) (h : SqB c X.K H a xs) : ∃ its : List Value, Vals xs its ∧ SeqB c s.heap a its.toArray ∧ a < s.heap.objs.size := by
  cases c
  · obtain ⟨its, r, p, _⟩ := I.tuple h
    obtain ⟨o, e, q, n, d⟩ := p
    exact ⟨its, r, ⟨o, e, q, n, d⟩, Heap.lt_size e⟩
  · obtain ⟨its, r, p, _⟩ := I.list h
    exact ⟨its, r, p.isList, p.lt⟩
theorem sqb_inj {X : Cx} {pins : List (Addr × Obj)} {σ : L2.St} {H : Hp} {s : Shared} {c : Bool} {a : Addr} {xs ys : List V} (I : Inv X pins σ H s) (h : SqB c X.K H a xs) (h' : SqB c X.K H a ys) : xs = ys := by
  cases c
  · exact I.tuple_inj h h'
  · exact I.list_inj h h'
def StS (c1 c2 : Bool) (z TI TO i1 i2 a b : Addr) : Nat → Heap → Prop := fun i h => ZipAt h z TI TO .none ∧ IsPair h TI (.ref i1) (.ref i2) ∧ (∃ x y, IsPair h TO x y) ∧ IterB c1 h i1 a i ∧ IterB c2 h i2 b i
section
variable {P : Program} {w : World} {K : PySem.W.Frag} {elts : List Expr} {kk : Nat} {tpos : Pos} {a b z TI TO i1 i2 : Addr} {c1 c2 : Bool}
theorem five {c : Addr} (h : c ∈ [z, TI, TO, i1, i2]) : c = z ∨ c = TI ∨ c = TO ∨ c = i1 ∨ c = i2 := by simpa using h
theorem off5 {c : Addr} (h : c ∉ [z, TI, TO, i1, i2]) : c ≠ z ∧ c ≠ TI ∧ c ≠ TO ∧ c ≠ i1 ∧ c ≠ i2 := by
  simpa using h
theorem turnS (D : ZipApart z TI TO i1 i2 a b) : Turn P w K (.Tuple elts kk tpos) (ItzS c1 c2 K a b) [z, TI, TO, i1, i2] z (StS c1 c2 z TI TO i1 i2 a b) where
  mem := by simp
  obj := fun i h ⟨q1, q2, ⟨x, y, q3⟩, q4, q5⟩ c hc => by
    rcases five hc with e | e | e | e | e
    · subst e; exact ⟨_, q1, fun v q => nomatch q⟩
    · subst e; exact ⟨_, q2, fun v q => nomatch q⟩
    · subst e; exact ⟨_, q3, fun v q => nomatch q⟩
    · subst e; exact q4.there
    · subst e; exact q5.there
  keep := fun i h h' ⟨q1, q2, ⟨x, y, q3⟩, q4, q5⟩ k =>
    ⟨k z (by simp) _ q1, k TI (by simp) _ q2, ⟨x, y, k TO (by simp) _ q3⟩, q4.at fun o q => k i1 (by simp) o q, q5.at fun o q => k i2 (by simp) o q⟩
  item := by
    intro X hP hw hK hc i pins s σ H E I hf st hg
    subst hP hw hK
    obtain ⟨q1, q2, ⟨x0, y0, q3⟩, q4, q5⟩ := st
    obtain ⟨xs, ys, x, y, hqx, hqy, hx, hy⟩ := hg
    obtain ⟨us, ru, pu, _⟩ := sqb_at I hqx
    obtain ⟨vs, rv, pv, _⟩ := sqb_at I hqy
    obtain ⟨u, hu, r1⟩ := ru.get hx
    obtain ⟨v, hv, r2⟩ := rv.get hy
    have zl : z < s.heap.objs.size := Heap.lt_size q1
    refine nextS_item D q1 q2 q3 q4 q5 pu pv (x := u) (y := v) (by simpa using hu) (by simpa using hv) fun g z' t' j1 j2 hT _ hk => ⟨_, rfl, goS (s := { s with heap := g }) z' fun g2 z2 sb => ?_⟩
    have pair2 : g2.get? s.heap.objs.size = some { cls := .type "tuple", data := .seq #[u, v] } := (sb.2 _ (Nat.ne_of_gt zl)).trans hT
    have I1 : Inv X pins σ (upd H s.heap.objs.size (.tup [x, y])) { s with heap := g2 } :=
      I.turnedNew (t' := s.toks) (ch := [z, TI, TO, i1, i2]) (fun c o hb q => by
        obtain ⟨n1, n2, n3, n4, n5⟩ := off5 hb
        exact (sb.2 c n1).trans (hk c o n1 n3 n4 n5 q)) hf (Nat.le_refl _) ⟨by show 2 ≤ sizeLine; decide, [u, v], .cons r1 (.cons r2 .nil), ⟨_, pair2, rfl, _, rfl⟩⟩
    refine ⟨.ref s.heap.objs.size, _, I1, rfl, ⟨_, x, y, rfl, I.hok.fresh (Nat.le_refl _), rfl, fun l hl => ?y1, fun l hl => ?y2⟩, ⟨z2, (sb.2 _ D.TIz).trans (hk _ _ D.TIz D.TITO D.TIi1 D.TIi2 q2), ⟨u, v, (sb.2 _ D.TOz).trans t'⟩, j1.at fun o q => (sb.2 _ D.i1z).trans q, j2.at fun o q => (sb.2 _ D.i2z).trans q⟩, fun c hcm => ?y3⟩
    case y1 => rw [sqb_inj I hl hqx]; exact hx
    case y2 => rw [sqb_inj I hl hqy]; exact hy
    case y3 =>
      have lt : c < s.heap.objs.size := by
        rcases five hcm with e | e | e | e | e
        · subst e; exact zl
        · subst e; exact Heap.lt_size q2
        · subst e; exact Heap.lt_size q3
        · subst e; obtain ⟨_, e1, _⟩ := q4.there; exact Heap.lt_size e1
        · subst e; obtain ⟨_, e1, _⟩ := q5.there; exact Heap.lt_size e1
      rw [upd_ne (Nat.ne_of_lt lt)]
      exact (hf c hcm).1
  done := by
    intro X hP hw hK hc i pins s σ H E I hf st hg
    subst hP hw hK
    obtain ⟨q1, q2, ⟨x0, y0, q3⟩, q4, q5⟩ := st
    obtain ⟨xs, ys, hqx, hqy, e1, e2⟩ := hg
    obtain ⟨us, ru, pu, _⟩ := sqb_at I hqx
    obtain ⟨vs, rv, pv, _⟩ := sqb_at I hqy
    have n1 := ru.length
    have n2 := rv.length
    refine nextS_end (I.ok.hd hc) D q1 q2 q3 q4 q5 pu pv (by simp; omega) (by simp; omega) fun g hk => ⟨rfl, I.turnedL (t' := s.toks) (ch := [z, TI, TO, i1, i2]) (fun c o hb q => ?_) hf⟩
    obtain ⟨n1, n2, n3, n4, n5⟩ := off5 hb
    exact hk c o n1 n3 n4 n5 q
  self := fun A i s Q E st h => iterS st.1 h
end
end WS
namespace WS
open PySem PySem.Spec PyProof.Rows L2
theorem zipS_check (a b v : Value) : checkTypeCall "zip" ⟨[a, b], [("strict", v)]⟩ = pure () := by kernel_rfl!
theorem zipS_newCheck (a b v : Value) : checkBuiltinCall "zip.__new__" ⟨[.type "zip", a, b], [("strict", v)]⟩ = pure () := by kernel_rfl!
theorem plain_zipNew : plainId "zip.__new__" = true := by decide +kernel
/-- the heap behind it -/
def itObj (c : Bool) (l : Addr) : Obj := match c with
  | true => { cls := .type "list_iterator", data := .fields #[.ref l, .int 0 0] }
  | false => { cls := .type "tuple_iterator", data := .fields #[.ref l, .int 0 0] }
theorem itObj_free (c : Bool) (l : Addr) : (itObj c l).isFreed = false := by cases c <;> rfl
theorem itObj_it {c : Bool} {h : Heap} {a l : Addr} (e : h.get? a = some (itObj c l)) : IterB c h a l 0 := by
  cases c
  · exact ⟨_, e, rfl, rfl⟩
  · exact ⟨_, e, rfl, rfl⟩
def hz1 (c1 : Bool) (h : Heap) (l1 : Addr) : Heap := h.push (itObj c1 l1)
def hz2 (c1 c2 : Bool) (h : Heap) (l1 l2 : Addr) : Heap := (hz1 c1 h l1).push (itObj c2 l2)
def hz3 (c1 c2 : Bool) (h : Heap) (l1 l2 : Addr) : Heap := (hz2 c1 c2 h l1 l2).push { cls := .type "tuple", data := .seq #[.ref h.objs.size, .ref (hz1 c1 h l1).objs.size] }
def hz4 (c1 c2 : Bool) (h : Heap) (l1 l2 : Addr) : Heap := (hz3 c1 c2 h l1 l2).push { cls := .type "tuple", data := .seq #[.none, .none] }
def hz5 (c1 c2 : Bool) (h : Heap) (l1 l2 : Addr) : Heap := (hz4 c1 c2 h l1 l2).push { cls := .type "zip", data := .fields #[.none, .bool false, .bool true, .ref (hz2 c1 c2 h l1 l2).objs.size, .ref (hz3 c1 c2 h l1 l2).objs.size] }
theorem zipS_init (o a b v : Value) : argsOk "object.__init__" ⟨[o, a, b], [("strict", v)]⟩ := by
  unfold argsOk; rw [signature?_of (id := "object.__init__") (n := ['_', '_', 'i', 'n', 'i', 't', '_', '_'].reverse) (o := ['o', 'b', 'j', 'e', 'c', 't'].reverse) (by kernel_rfl) PySem.F.owner_object]; kernel_rfl
section
variable {P : Program} {w : World} {A : Around} {E : Value → Shared → Prop} {s : Shared} {l1 l2 : Addr} {xs ys : Array Value} {c1 c2 : Bool} {Q : Value → Shared → Prop}
theorem code_zipS {R : Result → Shared → Prop} (hl1 : SeqB c1 s.heap l1 xs) (hl2 : SeqB c2 s.heap l2 ys) (h : R (.ok (.ret (.ref (hz4 c1 c2 s.heap l1 l2).objs.size))) { s with heap := hz5 c1 c2 s.heap l1 l2 }) :
    codeAny (model P w) A (.call (.builtin "zip.__new__") ⟨[.type "zip", .ref l1, .ref l2], [("strict", .bool true)]⟩) R s := by
  refine codeAny_of_tree ?tree
  show wpAny _ A.in1 (do checkBuiltinCall "zip.__new__" ⟨[.type "zip", .ref l1, .ref l2], [("strict", .bool true)]⟩; again (.builtin "zip.__new__" ⟨[.type "zip", .ref l1, .ref l2], [("strict", .bool true)]⟩)) _ _ s
  refine wpAny_bind (wpAny_of_eq (zipS_newCheck _ _ _) (wpAny_pure ⟨plainId_quiet plain_zipNew _, codeAny_builtin F.entry_zip_new ?in_⟩))
  rw [Around.under_plainId plain_zipNew _]
  unfold Builtin.«zip.__new__»
  have hsub := PySem.sub_zip
  obtain ⟨hp, g, d, tk, os⟩ := s
  have L2 : SeqB c2 (hz1 c1 hp l1) l2 ys := hl2.at fun o e => Heap.get?_push_of_some _ e
  have L1 : SeqB c1 hp l1 xs := hl1
  unfold hz1 at L2
  cases c1 <;> cases c2
  · have A1 : Heap.IsTuple (Shared.heap ⟨hp, g, d, tk, os⟩) l1 xs := L1
    have A2 : Heap.IsTuple (Shared.heap ⟨hp.push { cls := .type "tuple_iterator", data := .fields #[.ref l1, .int 0 0] }, g, d, tk, os⟩) l2 ys := L2
    wp_walk using wpAny_pyIter_tuple A1, wpAny_pyIter_tuple A2
    exact h
  · have A1 : Heap.IsTuple (Shared.heap ⟨hp, g, d, tk, os⟩) l1 xs := L1
    have A2 : Heap.IsList (Shared.heap ⟨hp.push { cls := .type "tuple_iterator", data := .fields #[.ref l1, .int 0 0] }, g, d, tk, os⟩) l2 ys := L2
    wp_walk using wpAny_pyIter_tuple A1, wpAny_pyIter_list A2
    exact h
  · have A1 : Heap.IsList (Shared.heap ⟨hp, g, d, tk, os⟩) l1 xs := L1
    have A2 : Heap.IsTuple (Shared.heap ⟨hp.push { cls := .type "list_iterator", data := .fields #[.ref l1, .int 0 0] }, g, d, tk, os⟩) l2 ys := L2
    wp_walk using wpAny_pyIter_list A1, wpAny_pyIter_tuple A2
    exact h
  · have A1 : Heap.IsList (Shared.heap ⟨hp, g, d, tk, os⟩) l1 xs := L1
    have A2 : Heap.IsList (Shared.heap ⟨hp.push { cls := .type "list_iterator", data := .fields #[.ref l1, .int 0 0] }, g, d, tk, os⟩) l2 ys := L2
    wp_walk using wpAny_pyIter_list A1, wpAny_pyIter_list A2
    exact h
theorem call_zipS (hl1 : SeqB c1 s.heap l1 xs) (hl2 : SeqB c2 s.heap l2 ys)
    (h : ∀ h', ZipAt h' (s.heap.objs.size + 4) (s.heap.objs.size + 2) (s.heap.objs.size + 3) .none → IsPair h' (s.heap.objs.size + 2) (.ref s.heap.objs.size) (.ref (s.heap.objs.size + 1)) →
      IsPair h' (s.heap.objs.size + 3) .none .none → IterB c1 h' s.heap.objs.size l1 0 → IterB c2 h' (s.heap.objs.size + 1) l2 0 →
      (∀ c o, s.heap.get? c = some o → h'.get? c = some o) → Q (.ref (s.heap.objs.size + 4)) { s with heap := h' }) :
    wpAny (model P w) A (call (.type "zip") [.ref l1, .ref l2] [("strict", .bool true)]) Q E s := by
  have m1 := F.called_zip.made
  have m3 := F.called_zip.notType
  have m4 := F.called_zip.canCreate
  have m5 := zipS_check (.ref l1) (.ref l2) (.bool true)
  have m6 := F.called_zip.init.lookup
  obtain ⟨c, tl, m8⟩ := F.called_zip.mro
  refine wpAny_call (codeAny_of_tree ?tree)
  show wpAny _ _ (callAny (.type "zip") _) _ _ _
  refine wpAny_pure ⟨Code.quiet_builtin _ (by decide +kernel), codeAny_builtin F.entry_type_call ?in_⟩
  rw [Around.under_plain (weight_type_call_type "zip" [.ref l1, .ref l2] [("strict", .bool true)]) rfl]
  repeat (any_goals (first | wp_step | assumption))
  show codeAny (model P w) A.in1 (.call (.builtin "zip.__new__") ⟨[.type "zip", .ref l1, .ref l2], [("strict", .bool true)]⟩) _ s
  refine code_zipS hl1 hl2 ?new
  have z1 : (hz1 c1 s.heap l1).objs.size = s.heap.objs.size + 1 := Heap.size_push ..
  have z2 : (hz2 c1 c2 s.heap l1 l2).objs.size = s.heap.objs.size + 2 := by unfold hz2; rw [Heap.size_push, z1]
  have z3 : (hz3 c1 c2 s.heap l1 l2).objs.size = s.heap.objs.size + 3 := by unfold hz3; rw [Heap.size_push, z2]
  have z4 : (hz4 c1 c2 s.heap l1 l2).objs.size = s.heap.objs.size + 4 := by unfold hz4; rw [Heap.size_push, z3]
  have a5 : (hz5 c1 c2 s.heap l1 l2).get? (hz4 c1 c2 s.heap l1 l2).objs.size = some _ := Heap.get?_push_size _ rfl
  have m7 := F.called_zip.init.bind (.ref (hz4 c1 c2 s.heap l1 l2).objs.size)
  have ty : Shared.TypeIs { s with heap := hz5 c1 c2 s.heap l1 l2 } (.ref (hz4 c1 c2 s.heap l1 l2).objs.size) "zip" := ⟨_, a5, rfl⟩
  have m2 := F.called_zip.sub
  repeat (any_goals (first | wp_step | assumption))
  show codeAny (model P w) A.in1 (.call (.builtin "object.__init__") ⟨[.ref (hz4 c1 c2 s.heap l1 l2).objs.size, .ref l1, .ref l2], [("strict", .bool true)]⟩) _ _
  let good : Value → Shared → Prop := fun r s2 => r = .none ∧ s2 = { s with heap := hz5 c1 c2 s.heap l1 l2 }
  refine codeAny_mono (codeAny_call_builtin (R := wants good E) F.called_zip.init.plain F.entry_object_init (F.called_zip.init.check _ _ _ _ _ _ _ _ ty (zipS_init _ _ _ _) ?ini)) fun r s2 hr => ?fin
  case ini =>
    have hl := F.called_zip.init.lookup
    have hm := F.called_zip.made
    have hne : (some "zip.__new__" != some "object.__new__") = true := by decide
    unfold Builtin.«object.__init__»
    repeat (any_goals (first | wp_step | assumption))
    exact ⟨rfl, rfl⟩
  case fin =>
    match r, hr with
    | .error e, hr => exact hr
    | .ok .next, hr => exact hr.elim
    | .ok .brk, hr => exact hr.elim
    | .ok .cont, hr => exact hr.elim
    | .ok (.ret _), ⟨e1, e2⟩ =>
      subst e1 e2
      repeat (any_goals (first | wp_step | assumption))
      have g4 : (hz5 c1 c2 s.heap l1 l2).get? (hz3 c1 c2 s.heap l1 l2).objs.size = some _ := Heap.get?_push_of_some _ (Heap.get?_push_size _ rfl)
      have g3 : (hz5 c1 c2 s.heap l1 l2).get? (hz2 c1 c2 s.heap l1 l2).objs.size = some _ := Heap.get?_push_of_some _ (Heap.get?_push_of_some _ (Heap.get?_push_size _ rfl))
      have g2 : (hz5 c1 c2 s.heap l1 l2).get? (hz1 c1 s.heap l1).objs.size = some (itObj c2 l2) := Heap.get?_push_of_some _ (Heap.get?_push_of_some _ (Heap.get?_push_of_some _ (Heap.get?_push_size _ (itObj_free c2 l2))))
      have g1 : (hz5 c1 c2 s.heap l1 l2).get? s.heap.objs.size = some (itObj c1 l1) := Heap.get?_push_of_some _ (Heap.get?_push_of_some _ (Heap.get?_push_of_some _ (Heap.get?_push_of_some _ (Heap.get?_push_size _ (itObj_free c1 l1)))))
      rw [z2, z3, z4] at a5
      rw [z1, z2] at g3
      rw [z3] at g4
      rw [z1] at g2
      rw [z4]
      exact h _ a5 g3 g4 (itObj_it g1) (itObj_it g2) fun c o e => Heap.get?_push_of_some _ (Heap.get?_push_of_some _ (Heap.get?_push_of_some _ (Heap.get?_push_of_some _ (Heap.get?_push_of_some _ e))))
end
end WS
namespace WS
open PySem PySem.Spec PyProof.Rows L2
section
variable {M : Model} {A : Around} {E : Value → Shared → Prop} {s : Shared} {env : Env}
/-- a built-in class called with keywords -/
theorem typeKw {pos : Pos} {T : String} {e : Expr} {rest : List Expr} {kws : List Keyword} {ks : List Str} {Q : Value → Shared → Prop}
    (h : wpAny M A (spliced (backTo pos (starEach (e :: rest) env))) (fun us s1 => wpAny M A (evalAll ((backToKw pos (keywordEach kws env)).map (·.2))) (fun ws s2 => wpAny M A (call (.type T) us (ks.zip ws)) Q E s2) E s1) E s)
    (he : backTo pos (starEach (e :: rest) env) = (false, eval e env) :: backTo pos (starEach rest env)) (hp : (backTo pos (starEach (e :: rest) env)).any (·.1) = false)
    (ha : (backToKw pos (keywordEach kws env)).all (·.1.isSome) = true) (hn : (backToKw pos (keywordEach kws env)).any (·.1.isNone) = false) (hk : (backToKw pos (keywordEach kws env)).filterMap (·.1) = ks) :
    wpAny M A (callWith pos (.type T) [] (backTo pos (starEach (e :: rest) env)) (backToKw pos (keywordEach kws env))) Q E s := by
  subst hk
  have args : wpAny M A (evalArgs (.type T) true (backTo pos (starEach (e :: rest) env)) (backToKw pos (keywordEach kws env))) (fun a s1 => wpAny M A (call (.type T) ([] ++ a.pos) a.kw) Q E s1) E s := by
    rw [he] at h ⊢
    exact evalArgs_kwB ha h
  unfold callWith
  refine wpAny_bind (wpAny_holding (wpAny_mono args (fun a s1 g => wpAny_bind (wpAny_standAt ?at_)) fun _ _ q => q))
  simp only [hp, hn, Bool.or_false]
  exact wpAny_bind (wpAny_pure (wpAny_bind (wpAny_mono g (fun r s2 q => wpAny_bind (wpAny_holding (wpAny_point (wpAny_pure q)))) fun _ _ q => q)))
end
def iZipSt (K : PySem.W.Frag) (ta : TA) : TI := fun σ H R => ta σ H fun vs H1 => ∃ c1 c2 a b xs ys, vs = [.ref a, .ref b] ∧ SqB c1 K H1 a xs ∧ SqB c2 K H1 b ys ∧ R (ItzS c1 c2 K a b) H1
section
variable {X : Cx} {e e2 : Expr} {ta : TA} {p pos tpos kp cp : Pos} {elts : List Expr} {kk jj : Nat} {c1 c2 : Bool}
theorem pi_zipS (hg : Gl X "zip") (hm : X.mg "zip" = none) (ha : PA X [e, e2] ta)
    (he : backTo pos (starEach [e, e2] X.env) = (false, eval e X.env) :: backTo pos (starEach [e2] X.env) := by kernel_rfl!) (hp : (backTo pos (starEach [e, e2] X.env)).any (·.1) = false := by kernel_rfl!)
    (hall : (backToKw pos (keywordEach [⟨some "strict", .Constant (.bool true) jj cp, kp⟩] X.env)).all (·.1.isSome) = true := by kernel_rfl!) (hno : (backToKw pos (keywordEach [⟨some "strict", .Constant (.bool true) jj cp, kp⟩] X.env)).any (·.1.isNone) = false := by kernel_rfl!)
    (hks : (backToKw pos (keywordEach [⟨some "strict", .Constant (.bool true) jj cp, kp⟩] X.env)).filterMap (·.1) = [("strict" : Str)] := by kernel_rfl!) :
    PI X (.Tuple elts kk tpos) (.Call (.Name "zip" p) [e, e2] [⟨some "strict", .Constant (.bool true) jj cp, kp⟩] pos) (iZipSt X.K ta) := by
  refine ⟨fun pins s σ H R I h => ?_⟩
  have hk : PK X [⟨some "strict", .Constant (.bool true) jj cp, kp⟩] (tCons (tC (.bl true)) tNil) := pk_cons pe_bl pk_nil
  refine wpAny_Call_Name_kw (ld_blt I hg hm PyProof.Rows.boot_zip ?_)
  refine typeKw (ks := [("strict" : Str)]) (thn (ha.run pos pins s σ H _ I h) fun us s1 ⟨vs, H1, I1, r1, q1⟩ => thn (hk.run pos pins s1 σ H1 (fun zs H2 => zs = [V.bl true] ∧ H2 = H1) I1 ⟨rfl, rfl⟩) fun ws s2 ⟨zs, H2, I2, r2, q2⟩ => ?_) he hp hall hno hks
  obtain ⟨rfl, rfl⟩ := q2
  obtain ⟨c1, c2, a, b, xs, ys, rfl, hqx, hqy, q⟩ := q1
  obtain ⟨u1, u2, rfl, ra, rb⟩ := vals2 r1
  obtain ⟨w1, rfl, rw1⟩ := vals1 r2
  cases ra
  cases rb
  cases rw1
  obtain ⟨us, ru, pu, la⟩ := sqb_at I2 hqx
  obtain ⟨vs, rv, pv, lb⟩ := sqb_at I2 hqy
  refine call_zipS pu pv fun g z1 z2 z3 z4 z5 hk => iterS z1 ?_
  refine ⟨s2.heap.objs.size + 4, [s2.heap.objs.size + 4, s2.heap.objs.size + 2, s2.heap.objs.size + 3, s2.heap.objs.size, s2.heap.objs.size + 1], _, _, H2, rfl, I2.kept (t' := s2.toks) hk, turnS (PySem.W.ktu_apart s2.heap.objs.size a b la lb), ⟨z1, z2, ⟨_, _, z3⟩, z4, z5⟩, fun c hcm => ?_, q⟩
  have le : s2.heap.objs.size ≤ c := by
    rcases five hcm with e | e | e | e | e <;> rw [e] <;> first | exact Nat.le_refl _ | exact Nat.le_add_right _ _
  exact I2.fpOk le (I2.hok.fresh le)
end
end WS
namespace WS
open PySem PySem.Spec PyProof.Rows L2
/-- a list or a tuple as a source of a strict zip -/
def dSq : D → Option (Bool × List D)
  | .lst xs => some (true, xs)
  | .tup xs => some (false, xs)
  | _ => none
def gZipS : List D → Option (List D)
  | [d, e] => (dSq d).bind fun x => (dSq e).bind fun y => if x.2.length = y.2.length then some (List.zipWith (fun x y => .tup [x, y]) x.2 y.2) else none
  | _ => none
section
variable {K : PySem.W.Frag} {S : Sx}
theorem itd_zipS {c1 c2 : Bool} {a b : Addr} {xs ys : List V} {ds es : List D} (h : SqB c1 K S.hp a xs) (h' : SqB c2 K S.hp b ys) (r : RpL K S xs ds) (r' : RpL K S ys es) (hl : ds.length = es.length) :
    ItD K S (ItzS c1 c2 K a b) (List.zipWith (fun x y => .tup [x, y]) ds es) := by
  intro S1 H1 l sh i
  have h1 : SqB c1 K H1 a xs := by
    cases c1
    · exact sh.sqT (l.s.sqT h)
    · exact sh.sqL (l.s.sqL h)
  have h2 : SqB c2 K H1 b ys := by
    cases c2
    · exact sh.sqT (l.s.sqT h')
    · exact sh.sqL (l.s.sqL h')
  refine ⟨fun d hd => ?_, fun hd => ?_⟩
  · obtain ⟨x, y, hx, hy, e⟩ := zip_get hd
    obtain ⟨v, hv, rv⟩ := r.get hx
    obtain ⟨u, hu, ru⟩ := r'.get hy
    subst e
    refine ⟨⟨xs, ys, v, u, h1, h2, hv, hu⟩, fun z H2 q => ?_⟩
    obtain ⟨T, v', u', e1, n, e2, q1, q2⟩ := q
    have z1 := q1 xs h1
    have z2 := q2 ys h2
    rw [hv] at z1; cases z1
    rw [hu] at z2; cases z2
    subst e1 e2
    have g := Grow.add (o := .tup [v, u]) sh n
    exact ⟨_, g, .tup (.inl (.inl Sx.add_at)) (.cons ((rv.mono l).mono g.le) (.cons ((ru.mono l).mono g.le) .nil))⟩
  · have z := zip_none hd
    refine ⟨xs, ys, h1, h2, ?_, ?_⟩ <;> rw [RpL.length (by assumption)] <;> omega
end
section
variable {X : Cx} {e e2 : Expr} {fs : EL} {p pos tpos kp cp : Pos} {elts : List Expr} {kk jj : Nat}
theorem i_zipS (hg : Gl X "zip") (hm : X.mg "zip" = none) (ha : PA X [e, e2] (TAv X.K fs))
    (he : backTo pos (starEach [e, e2] X.env) = (false, eval e X.env) :: backTo pos (starEach [e2] X.env) := by kernel_rfl!) (hp : (backTo pos (starEach [e, e2] X.env)).any (·.1) = false := by kernel_rfl!)
    (hall : (backToKw pos (keywordEach [⟨some "strict", .Constant (.bool true) jj cp, kp⟩] X.env)).all (·.1.isSome) = true := by kernel_rfl!) (hno : (backToKw pos (keywordEach [⟨some "strict", .Constant (.bool true) jj cp, kp⟩] X.env)).any (·.1.isNone) = false := by kernel_rfl!)
    (hks : (backToKw pos (keywordEach [⟨some "strict", .Constant (.bool true) jj cp, kp⟩] X.env)).filterMap (·.1) = [("strict" : Str)] := by kernel_rfl!) :
    PI X (.Tuple elts kk tpos) (.Call (.Name "zip" p) [e, e2] [⟨some "strict", .Constant (.bool true) jj cp, kp⟩] pos) (TIv X.K (iApp gZipS fs)) :=
  (pi_zipS hg hm ha he hp hall hno hks).imp fun σ H R h => tiv_app (t := iZipSt X.K) (r := fun vs H1 R => ∃ c1 c2 a b xs ys, vs = [.ref a, .ref b] ∧ SqB c1 X.K H1 a xs ∧ SqB c2 X.K H1 b ys ∧ R (ItzS c1 c2 X.K a b) H1) (fun _ _ _ _ h => h) (fun S H vs ds zs R sh r e q => by
    have key : ∀ {v : V} {d : D} {c : Bool} {xs : List D}, Rp X.K S v d → dSq d = some (c, xs) → ∃ a ws, v = .ref a ∧ SqB c X.K S.hp a ws ∧ SqB c X.K H a ws ∧ RpL X.K S ws xs := by
      intro v d c xs r1 e1
      unfold dSq at e1
      split at e1
      · cases e1
        cases r1 with
        | lst h1 q1 => exact ⟨_, _, rfl, .inl (.inl h1), .inl (.inl (sh _ _ h1)), q1⟩
      · cases e1
        cases r1 with
        | tup h1 q1 => exact ⟨_, _, rfl, h1, sh.sqT h1, q1⟩
      · cases e1
    unfold gZipS at e
    split at e
    case h_2 => cases e
    obtain ⟨⟨c1, xs⟩, d1, e⟩ := Option.bind_eq_some_iff.mp e
    obtain ⟨⟨c2, ys⟩, d2, e⟩ := Option.bind_eq_some_iff.mp e
    split at e
    case isFalse => cases e
    rename_i hl
    cases e
    cases r with
    | cons r1 r2 =>
      cases r2 with
      | cons r2 r3 =>
        cases r3
        obtain ⟨a, us, rfl, s1, s2, q1⟩ := key r1 d1
        obtain ⟨b, vs, rfl, t1, t2, q2⟩ := key r2 d2
        exact ⟨_, _, _, _, _, _, rfl, s2, t2, q _ (itd_zipS s1 t1 q1 q2 hl)⟩) h
end
end WS
namespace WO
open PySem PySem.Spec PyProof.Rows L2
open AutoSeq1 (wpAny_loadPart')
section
variable {M : Model} {A : Around} {E : Value → Shared → Prop} {s : Shared} {K : PySem.W.Frag} {y C dx : Addr} {Q : Fin → Shared → Prop} {T : String}
structure OwnI (K : PySem.W.Frag) (h : Heap) (y C dx : Addr) : Prop where
  X : K.In h
  at_ : h.get? y = some (PySem.W.instObj C dx)
  i : ∃ oy od, PySem.W.InstAt h y oy C od
theorem inst_no {R : Bool → Shared → Prop} (I : OwnI K s.heap y C dx) (e : PySem.W.subIn K (.ref C) (.type T) = some false) (h : R false s) : wpAny M A (isInstance (.ref y) (.type T)) R E s := by
  unfold isInstance
  obtain ⟨_, _, J⟩ := I.i
  exact wpAny_bind (J.type.here ((PySem.W.looks_subIn I.X e).here h))
theorem load_own {R : Obj → Shared → Prop} (I : OwnI K s.heap y C dx) (h : R (PySem.W.instObj C dx) s) : wpAny M A (load y) R E s := wpAny_load I.at_ h
theorem str_eq (I : OwnI K s.heap y C dx) (e : PySem.W.subIn K (.ref C) (.type "str") = some false) {x : Str} {t : Tok} (hq : Q (.done (.ret .notImplemented)) s) : wpAny M A (Builtin.«str.__eq__» ⟨[.str x t, .ref y], []⟩) Q E s := by
  unfold Builtin.«str.__eq__» Builtin.Str.strCompare
  repeat (first | with_reducible refine inst_no I e ?_ | with_reducible refine load_own I ?_ | wp_step)
  exact hq
end
end WO
namespace WO
open PySem PySem.Spec PyProof.Rows L2
end WO
namespace WO
open PySem PySem.Spec PyProof.Rows L2 WS
end WO
namespace WS
open PySem PySem.Spec PyProof.Rows L2 WO
/-- a class's own method, by its name -/
structure MeW (P : Program) (w : World) (K : PySem.W.Frag) (mg : Str → Option Value) (base : Heap) (k : Nat) (nm me : Str) (n : Nat) (F : Fn) (C f : Addr) : Prop where
  ex : ∃ (fd : FuncData) (ps : List Str), FnG P w K mg base CX0 k f fd ps (spS K n F) ∧ Binds K fd ps []
  cn : ClsN K nm C
  xg : excG K C = false
  fi : PySem.W.findIn K (.ref C) me = some (some (.ref f))
  fn : PySem.W.isFn K (.ref f) = true
end WS
namespace WO
open PySem PySem.SeqAt
open AutoSeq1 (wpAny_loadPart')
open MeetsSeq MeetsSeq2 MeetsSeq3 SeqRoads2
end WO
namespace WS
open PySem PySem.Spec PyProof.Rows L2 WO
mutual
def distP : D → D → Bool
  | .int i, .int j => decide (i ≠ j)
  | .str x, .str y => decide (x ≠ y)
  | .bl a, .bl b => decide (a ≠ b)
  | .tup xs, .tup ys => distPs xs ys
  | .lst xs, .lst ys => distPs xs ys
  | x, y => match tyn x, tyn y with
    | some a, some b => decide (a ≠ b)
    | _, _ => false
def distPs : List D → List D → Bool
  | x :: xs, y :: ys => distP x y || distPs xs ys
  | [], _ :: _ => true
  | _ :: _, [] => true
  | [], [] => false
end
def dist : D → D → Bool
  | .ins _ _ ds, .ins _ _ es => distPs ds es
  | .ins _ _ _, e => (tyn e).isSome
  | d, .ins _ _ _ => (tyn d).isSome
  | d, e => distP d e
end WS
namespace WS
open PySem PySem.Spec PyProof.Rows L2 WO
abbrev _root_.L2.Cx.in1 (X : Cx) : Cx := { X with A := X.A.in1 }
def valV : Value → V
  | .none => .non
  | .bool b => .bl b
  | .int i _ => .int i
  | .str x _ => .str x
  | .bytes b _ => .byt b
  | .float b _ => .flt b
  | .ref a => .ref a
  | .type n => .ty n
  | _ => .non
end WS
namespace WS
open PySem PySem.Spec PyProof.Rows L2 WO
section
variable {P : Program} {w : World} {K : PySem.W.Frag} {mg : Str → Option Value} {base : Heap} {k : Nat}
theorem MeW.up {j k n : Nat} {nm me : Str} {F : Fn} {C f : Addr} (m : MeW P w K mg base j nm me n F C f) (h : j ≤ k) : MeW P w K mg base k nm me n F C f := by
  obtain ⟨fd, ps, G, hb⟩ := m.ex
  exact ⟨⟨fd, ps, G.up h, hb⟩, m.cn, m.xg, m.fi, m.fn⟩
end
section
variable {K : PySem.W.Frag} {mg : Str → Option Value} {h : Heap}
def NFs (K : PySem.W.Frag) (C : Addr) : List Str → Prop
  | [] => True
  | x :: r => (∃ C', ClsN K x C' ∧ PySem.W.notFirst K C (.ref C') = true) ∧ NFs K C r
theorem NFs.all {C : Addr} : ∀ {l : List Str}, NFs K C l → ∀ nm' ∈ l, ∀ C', ClsN K nm' C' → PySem.W.notFirst K C (.ref C') = true
  | a :: r, ⟨⟨C0, n0, e0⟩, t⟩, x, hx, C', n => by
    rcases List.mem_cons.mp hx with e | hx
    · subst e; cases n0.eq n; exact e0
    · exact NFs.all t x hx C' n
def O7 (K : PySem.W.Frag) (C : Addr) : List String → Prop
  | [] => True
  | T :: r => (PySem.W.subIn K (.ref C) (.type T) = some false ∧ PySem.W.notFirst K C (.type T) = true) ∧ O7 K C r
theorem O7.all {C : Addr} : ∀ {l : List String}, O7 K C l → ∀ T ∈ l, PySem.W.subIn K (.ref C) (.type T) = some false ∧ PySem.W.notFirst K C (.type T) = true
  | a :: r, ⟨h, t⟩, x, hx => by
    rcases List.mem_cons.mp hx with e | hx
    · subst e; exact h
    · exact O7.all t x hx
end
end WS
namespace WS
open PySem PySem.Spec PyProof.Rows L2
end WS
namespace WS
open PySem PySem.Spec PyProof.Rows L2
end WS
namespace WS
open PySem PySem.Spec PyProof.Rows L2
theorem plain_list {h : Heap} {a : Addr} {items : Array Value} (ht : PlainL h a items) : h.IsList a items := by
  obtain ⟨o, n, a1, a2, _, a3⟩ := ht
  exact ⟨o, a1, a2, n, a3⟩
end WS
namespace WS
open PySem PySem.Spec PyProof.Rows L2
end WS
namespace WS
open PySem PySem.Spec PyProof.Rows L2
theorem _root_.L2.PET.imp {X : Cx} {e : Expr} {t t' : TE} (h : PET X e t) (i : ∀ σ H Q, t' σ H Q → t σ H Q) : PET X e t' := fun pins s σ H Q h0 I q => h pins s σ H Q h0 I (i _ _ _ q)
theorem _root_.L2.PAT.imp {X : Cx} {e : List Expr} {t t' : TA} (h : PAT X e t) (i : ∀ σ H Q, t' σ H Q → t σ H Q) : PAT X e t' := fun pos pins s σ H Q h0 I q => h pos pins s σ H Q h0 I (i _ _ _ q)
end WS
namespace WS
open PySem PySem.Spec PyProof.Rows L2
end WS
namespace WS
open PySem PySem.Spec PyProof.Rows L2
end WS
namespace WS
open PySem PySem.Spec PyProof.Rows L2
end WS
namespace PySem
end PySem
namespace PySem
end PySem
namespace WS
open PySem PySem.Spec PyProof.Rows L2
end WS
namespace WS
open PySem PySem.Spec PyProof.Rows L2
end WS
namespace WO
open PySem PySem.SeqAt PySem.Spec PyProof.Rows
open AutoSeq1 (wpAny_loadPart')
open MeetsSeq MeetsSeq2 MeetsSeq3 SeqRoads2
end WO
namespace WS
open PySem PySem.Spec PyProof.Rows L2 WO
end WS
namespace WS
open PySem PySem.Spec PyProof.Rows L2
section
variable {prog : Program} {w : World} {K : PySem.W.Frag}
/-- each row: the two texts, the key's place, the thing -/
abbrev Row2 := (Str × Str) × Addr × Value
def row2 (x : Row2) : List Str × Addr × Value := ([x.1.1, x.1.2], x.2.1, x.2.2)
def KTup (prog : Program) (w : World) (K : PySem.W.Frag) (d : Addr) (rs : List Row2) : Prop :=
  (d == sysModules) = false ∧ ∀ h, K.In h → h.DictOfH (tupleKind (strKind prog w)) d (rs.map row2)
inductive Keys2 (K : PySem.W.Frag) : List Row2 → Prop
  | nil : Keys2 K []
  | cons {x y : Str} {t u : Tok} {a n : Nat} {v : Value} {sl : Array (Option Value)} {rs : List Row2} (h : K.lookup a = some ⟨.type "tuple", none, .seq #[.str x t, .str y u] n, sl⟩) (k : Keys2 K rs) : Keys2 K (((x, y), a, v) :: rs)
theorem Keys2.is {h : Heap} (X : K.In h) : ∀ {rs : List Row2}, Keys2 K rs → ∀ x ∈ rs.map row2, (tupleKind (strKind prog w)).is h x.1 x.2.1
  | _, .nil, x, hx => by simp at hx
  | _, .cons (x := x) (y := y) e k, z, hz => by
    rw [List.map_cons] at hz
    rcases List.mem_cons.mp hz with rfl | hz
    · exact ⟨_, _, _, X _ _ e, rfl, rfl, .cons (beq_self_eq_true x) (.cons (beq_self_eq_true y) .nil)⟩
    · exact Keys2.is X k z hz
theorem KTup.mk {d n : Nat} {es : Array DictEntry} {rs : List Row2} (h1 : K.lookup d = some ⟨.type "dict", none, .dict es n, #[]⟩) (h2 : es.toList = (rs.map row2).map (entryOfKey (tupleKind (strKind prog w)))) (h3 : Keys2 K rs)
    (h4 : (d == sysModules) = false) (h5 : decide ((rs.map row2).map (·.1)).Nodup = true) : KTup prog w K d rs :=
  ⟨h4, fun h X => ⟨_, es, n, X _ _ h1, ⟨rfl, rfl, rfl⟩, rfl, h2, fun x hx => h3.is X x hx, of_decide_eq_true h5⟩⟩
end
end WS
namespace WS
open PySem PySem.Spec PyProof.Rows L2
inductive Rows2 (K : PySem.W.Frag) : List Row2 → List ((Str × Str) × Str) → Prop
  | nil : Rows2 K [] []
  | cons {x y nm : Str} {ka a : Addr} {rs : List Row2} {tab : List ((Str × Str) × Str)} (h : ClsN K nm a) (k : Rows2 K rs tab) : Rows2 K (((x, y), ka, .ref a) :: rs) (((x, y), nm) :: tab)
def look2 (x y : Str) : List ((Str × Str) × Str) → Option Str
  | [] => none
  | ((a, b), nm) :: r => if a = x ∧ b = y then some nm else look2 x y r
theorem Rows2.at {K : PySem.W.Frag} {x y nm : Str} : ∀ {rs : List Row2} {tab : List ((Str × Str) × Str)}, Rows2 K rs tab → look2 x y tab = some nm → ∃ ka a, atKey (rs.map row2) [x, y] = some (ka, .ref a) ∧ ClsN K nm a
  | _, _, .nil, e => by cases e
  | _, _, .cons (x := a) (y := b) (ka := ka) (a := f) (rs := rs) h k, e => by
    unfold look2 at e
    unfold atKey
    rw [List.map_cons, List.find?_cons]
    by_cases c : a = x ∧ b = y
    · rw [if_pos c] at e
      cases e
      obtain ⟨rfl, rfl⟩ := c
      have : decide ((row2 ((a, b), ka, Value.ref f)).1 = [a, b]) = true := decide_eq_true rfl
      rw [this]
      exact ⟨ka, f, rfl, h⟩
    · rw [if_neg c] at e
      have : decide ((row2 ((a, b), ka, Value.ref f)).1 = [x, y]) = false := decide_eq_false fun z => by
        simp only [row2, List.cons.injEq, and_true] at z
        exact c z
      rw [this]
      exact k.at e
end WS
namespace WS
open PySem PySem.Spec PyProof.Rows L2
def AllVia (φ : Str → Fn → Prop) : List (Str × Fn) → Prop
  | [] => True
  | (a, F) :: r => φ a F ∧ AllVia φ r
theorem AllVia.at {φ : Str → Fn → Prop} {nm : Str} {F : Fn} : ∀ {l : List (Str × Fn)}, AllVia φ l → l.lookup nm = some F → φ nm F
  | [], _, e => by cases e
  | (a, G) :: r, h, e => by
    rw [List.lookup_cons] at e
    by_cases c : nm = a
    · subst c
      rw [beq_self_eq_true] at e
      cases e
      exact h.1
    · rw [beq_eq_false_iff_ne.mpr c] at e
      exact h.2.at e
end WS
namespace WS
open PySem PySem.Spec PyProof.Rows L2
end WS
namespace WS
open PySem PySem.Spec PyProof.Rows L2
def gAllT : List Tg → List D → List Sl → Option (List Sl)
  | [], [], ρ => some ρ
  | g :: gs, d :: ds, ρ => (g d ρ).bind (gAllT gs ds)
  | _, _, _ => none
def gTupT (gs : List Tg) : Tg := fun d ρ => match d with
  | .tup ds => gAllT gs ds ρ
  | _ => none
inductive PGs (X : Cx) : List Expr → List Nat → List Tg → Prop
  | nil : PGs X [] [] []
  | cons {t : Expr} {ts : List Expr} {vs ws : List Nat} {g : Tg} {gs : List Tg} (h : PG X t (TGv X.K vs g)) (k : PGs X ts ws gs) : PGs X (t :: ts) (vs ++ ws) (g :: gs)
section
variable {X : Cx} {F : Hp} {dk : Dk}
theorem goals_run {pins : List (Addr × Obj)} : ∀ {ts : List Expr} {ws : List Nat} {gs : List Tg} {s : Shared} {σ : L2.St} {H : Hp} {S : Sx} {ρ ρ' : List Sl} {vs : List V} {us : List Value} {ds : List D} {Q : L2.St → Hp → Prop},
    PGs X ts ws gs → Inv X pins σ H s → Rep X.K σ H S F ρ dk → Vals vs us → RpL X.K S vs ds → gAllT gs ds ρ = some ρ' →
    (∀ σ' H' S', Le S S' → Rep X.K σ' H' S' F ρ' dk → σ'.length = σ.length → (∀ i, i ∉ ws → σ'[i]? = σ[i]?) → Q σ' H') →
    wpAny (model X.prog X.w) X.A (assignInOrder (ts.map fun t => assign t X.env) us) (fun _ s' => ∃ σ' H', Inv X pins σ' H' s' ∧ Q σ' H') X.xe s
  | _, _, _, s, σ, H, S, ρ, ρ', _, _, _, Q, .nil, I, R, rv, rr, e, q => by
    cases rr with
    | nil =>
      cases e
      exact assignInOrder_nil ⟨σ, H, I, q σ H S (Le.refl S) R rfl fun _ _ => rfl⟩
    | cons _ _ => cases e
  | _, _, _, s, σ, H, S, ρ, ρ', _, _, _, Q, .cons (t := t) (ts := ts) (vs := ws1) (ws := ws2) (g := g) (gs := gs) h k, I, R, rv, rr, e, q => by
    cases rr with
    | nil => cases e
    | cons r1 rr =>
      rename_i v vs d ds
      cases rv with
      | cons u1 rv =>
        rename_i u us
        unfold gAllT at e
        cases e1 : g d ρ with
        | none => rw [e1] at e; cases e
        | some ρ1 =>
          rw [e1] at e
          simp only [Option.bind_some] at e
          have w1 : TGv X.K ws1 g v σ H fun σ1 H1 => ∃ S1, Le S S1 ∧ Rep X.K σ1 H1 S1 F ρ1 dk ∧ σ1.length = σ.length ∧ ∀ i, i ∉ ws1 → σ1[i]? = σ[i]? :=
            ⟨S, F, ρ, dk, d, ρ1, R, r1, e1, fun σ1 H1 S1 l1 R1 n1 o1 => ⟨S1, l1, R1, n1, o1⟩⟩
          refine assignInOrder_cons (thn (h.run pins s σ H v u _ I u1 w1) ?_)
          intro _ s1 ⟨σ1, H1, I1, S1, l1, R1, n1, o1⟩
          refine goals_run k I1 R1 rv (rr.mono l1) e fun σ2 H2 S2 l2 R2 n2 o2 => q σ2 H2 S2 (l1.trans l2) R2 (n2.trans n1) fun i hi => ?_
          rw [List.mem_append] at hi
          rw [o2 i fun z => hi (.inr z), o1 i fun z => hi (.inl z)]
theorem goals_len : ∀ {ts : List Expr} {ws : List Nat} {gs : List Tg} {ds : List D} {ρ ρ' : List Sl}, PGs X ts ws gs → gAllT gs ds ρ = some ρ' → ts.length = ds.length := by
  intro ts ws gs ds ρ ρ' h
  induction h generalizing ds ρ with
  | nil => intro e; cases ds with | nil => rfl | cons _ _ => cases e
  | cons h k ih =>
    rename_i t ts vs ws g gs
    intro e
    cases ds with
    | nil => cases e
    | cons d ds =>
      unfold gAllT at e
      cases e1 : g d ρ with
      | none => rw [e1] at e; cases e
      | some ρ1 =>
        rw [e1] at e
        simp only [Option.bind_some] at e
        simp [ih e]
theorem t_tupT {ts : List Expr} {ws : List Nat} {gs : List Tg} {k : Nat} {pos : Pos} (hc : X.calm = true) (h : PGs X ts ws gs) (hf : (assignEach ts X.env) = ts.map (fun t => (false, assign t X.env)) := by kernel_rfl!) :
    PG X (.Tuple ts k pos) (TGv X.K ws (gTupT gs)) := by
  refine ⟨fun pins s σ H v u Q I r hw => ?_⟩
  obtain ⟨S, F, ρ, dk, d, ρ2, R, rv, e, q⟩ := hw
  unfold gTupT at e
  split at e
  case h_2 => cases e
  rename_i ds
  cases rv with
  | tup hs rr =>
    cases r
    obtain ⟨its, rvs, ht, hz'⟩ := I.tuple (R.sh.sqT hs)
    have len : ∀ {ts : List Expr} {ws : List Nat} {gs : List Tg} {ds : List D} {ρ ρ' : List Sl}, PGs X ts ws gs → gAllT gs ds ρ = some ρ' → ts.length = ds.length := by
      intro ts ws gs ds ρ ρ' h
      induction h generalizing ds ρ with
      | nil => intro e; cases ds with | nil => rfl | cons _ _ => cases e
      | cons h k ih =>
        rename_i t ts vs ws g gs
        intro e
        cases ds with
        | nil => cases e
        | cons d ds =>
          unfold gAllT at e
          cases e1 : g d ρ with
          | none => rw [e1] at e; cases e
          | some ρ1 =>
            rw [e1] at e
            simp only [Option.bind_some] at e
            simp [ih e]
    have hl := len h e
    have hl2 : ts.length = its.length := by rw [hl, ← rr.length]; exact rvs.length
    refine assign_Tuple_tuple (I.ok.hd hc) ht (by rw [hf, List.length_map, List.size_toArray]; exact hl2) (by rw [hf, List.findIdx?_eq_none_iff]; intro x hx; obtain ⟨t, _, rfl⟩ := List.mem_map.mp hx; rfl) fun h' hx => ?_
    have I1 : Inv X pins σ H { s with heap := h' } := I.kept (t' := s.toks) fun b o e => hx b o (Nat.ne_of_lt (Heap.lt_size e)) e
    rw [hf, List.map_map]
    exact goals_run h I1 R rvs rr e q
/-- many targets by a tuple or a list -/
def gSeqT (gs : List Tg) : Tg := fun d ρ => match d with
  | .tup ds => gAllT gs ds ρ
  | .lst ds => gAllT gs ds ρ
  | _ => none
theorem t_seqT {ts : List Expr} {ws : List Nat} {gs : List Tg} {k : Nat} {pos : Pos} (hc : X.calm = true) (h : PGs X ts ws gs) (hf : (assignEach ts X.env) = ts.map (fun t => (false, assign t X.env)) := by kernel_rfl!) :
    PG X (.Tuple ts k pos) (TGv X.K ws (gSeqT gs)) := by
  refine ⟨fun pins s σ H v u Q I r hw => ?_⟩
  obtain ⟨S, F, ρ, dk, d, ρ2, R, rv, e, q⟩ := hw
  unfold gSeqT at e
  split at e
  case h_3 => cases e
  case h_1 => exact (t_tupT hc h hf).run pins s σ H v u Q I r ⟨S, F, ρ, dk, _, ρ2, R, rv, e, q⟩
  rename_i ds
  cases rv with
  | lst hs rr =>
    cases r
    obtain ⟨its, rvs, ht, hz'⟩ := I.list (.inl (.inl (R.sh _ _ hs)))
    have hl2 : ts.length = its.length := by rw [goals_len h e, ← rr.length]; exact rvs.length
    rw [assign_Tuple]
    refine wpAny_bind (wpAny_standAt ?_)
    unfold unpack
    rw [hf, List.length_map, hl2, show (ts.map fun t => (false, assign t X.env)).findIdx? (·.1) = none from by rw [List.findIdx?_eq_none_iff]; intro x hx; obtain ⟨t, _, rfl⟩ := List.mem_map.mp hx; rfl]
    refine wpAny_bind (wpAny_holding ?_)
    have hsz : its.toArray.size = its.length := List.size_toArray
    rw [← hsz]
    refine PySem.W.kun_itemsOf (I.ok.hd hc) (plain_list ht) fun h' hx => ?_
    have I1 : Inv X pins σ H { s with heap := h' } := I.kept (t' := s.toks) fun b o e => hx b o (Nat.ne_of_lt (Heap.lt_size e)) e
    rw [List.map_map]
    exact goals_run h I1 R rvs rr e q
end
end WS
namespace WS
open PySem PySem.Spec PyProof.Rows L2 WO
end WS
namespace WS
open PySem PySem.Spec PyProof.Rows L2
end WS
namespace WO
open PySem PySem.Spec PyProof.Rows L2 WS
/-- what a dict of K tells of some names -/
inductive KwT (K : PySem.W.Frag) (Da : Addr) : List Str → List D → Prop where
  | nil : KwT K Da [] []
  | cons {x : Str} {u : Value} {d : D} {xs : List Str} {ds : List D} : PySem.W.nsIn K Da x = some (some u) → RpK K u d → KwT K Da xs ds → KwT K Da (x :: xs) (d :: ds)
section
variable {X : Cx} {k n : Nat} {nm qual : Str} {F : Addr → FnX} {st : Stmt} {ps ks xs : List Str} {ds : List D} {E : L2.St → XK} {p pos : Pos} {e : Expr} {es : List Expr} {kws : List Keyword} {fl gl : EL} {W : WX} {π : List Nat}
theorem KwT.at {K : PySem.W.Frag} {Da : Addr} {xs : List Str} {ds : List D} (h : KwT K Da xs ds) : ∀ i : Nat, (xs[i]? = none ∧ ds[i]? = none) ∨ ∃ x d u, xs[i]? = some x ∧ ds[i]? = some d ∧ PySem.W.nsIn K Da x = some (some u) ∧ RpK K u d := by
  induction h with
  | nil => exact fun i => .inl ⟨rfl, rfl⟩
  | cons e r _ ih =>
    intro i
    cases i with
    | zero => exact .inr ⟨_, _, _, rfl, rfl, e, r⟩
    | succ i => exact ih i
end
end WO
namespace WS
open PySem PySem.Spec PyProof.Rows L2
def newS (S : Sx) (H' : Hp) (new : List Addr) : Sx := { S with hp := fun b => if b ∈ new then H' b else S.hp b }
theorem newS_in {S : Sx} {H' : Hp} {new : List Addr} {b : Addr} (h : b ∈ new) : (newS S H' new).hp b = H' b := if_pos h
theorem newS_out {S : Sx} {H' : Hp} {new : List Addr} {b : Addr} (h : b ∉ new) : (newS S H' new).hp b = S.hp b := if_neg h
theorem newS_grow {S : Sx} {H H' : Hp} {new : List Addr} (sh : Sub S.hp H) (k : ∀ b o, H b = some o → H' b = some o) (n : ∀ b ∈ new, H b = none) : Grow S H (newS S H' new) H' := by
  refine ⟨fun b o e => ?_, rfl, rfl, fun b o e => ?_, k, fun b o e e2 => ?_⟩
  · rw [newS_out fun z => by have := sh _ _ e; rw [n b z] at this; cases this]
    exact e
  · by_cases z : b ∈ new
    · rw [newS_in z] at e; exact e
    · rw [newS_out z] at e; exact k _ _ (sh _ _ e)
  · rw [newS_out fun z => by rw [n b z] at e; cases e]
    exact e2
def pairsD : List D → Option (List Key × List D)
  | [] => some ([], [])
  | d :: r => match d with
    | .tup [y, v] => (keyD y).bind fun z => (pairsD r).map fun p => (z :: p.1, v :: p.2)
    | _ => none
theorem putK_new {kvs : List (Key × V)} {k : Key} {v : V} (h : k ∉ kvs.map (·.1)) : putK kvs k v = kvs ++ [(k, v)] := by
  unfold putK
  rw [if_neg]
  intro z
  obtain ⟨kv, hm, e⟩ := List.any_eq_true.mp z
  exact h (List.mem_map.mpr ⟨kv, hm, of_decide_eq_true e⟩)
theorem mergeK_new : ∀ {more kvs : List (Key × V)}, ((kvs ++ more).map (·.1)).Nodup → mergeK kvs more = kvs ++ more
  | [], kvs, _ => by simp [mergeK]
  | kv :: more, kvs, h => by
    have h1 : kv.1 ∉ kvs.map (·.1) := by
      rw [List.map_append, List.nodup_append] at h
      intro z
      exact h.2.2 _ z _ (by simp) rfl
    have e : mergeK kvs (kv :: more) = mergeK (putK kvs kv.1 kv.2) more := rfl
    rw [e, putK_new h1, mergeK_new (by simpa using h)]
    simp
theorem pairs_rp {K : PySem.W.Frag} {S : Sx} {H : Hp} (sh : Sub S.hp H) : ∀ {ps : List D} {vs : List V} {r : List Key × List D}, RpL K S vs ps → pairsD ps = some r → ∃ (as : List Addr) (kvs : List (Key × V)), vs = as.map V.ref ∧ Paired (fun (a : Addr) (kv : Key × V) => SqT K H a [kV kv.1, kv.2]) as kvs ∧ kvs.map (·.1) = r.1 ∧ RpL K S (kvs.map (·.2)) r.2
  | [], _, _, .nil, e => by cases e; exact ⟨[], [], rfl, .nil, rfl, .nil⟩
  | d :: ps, _, _, .cons a b, e => by
    unfold pairsD at e
    split at e
    case h_2 => cases e
    rename_i y v
    obtain ⟨z, ez, e⟩ := Option.bind_eq_some_iff.mp e
    obtain ⟨r1, er, e⟩ := Option.map_eq_some_iff.mp e
    cases e
    obtain ⟨as, kvs, rfl, hp, h1, h2⟩ := pairs_rp sh b er
    cases a with
    | tup h q =>
      rename_i A ws
      cases q with
      | cons q1 q2 =>
        cases q2 with
        | cons q2 q3 =>
          cases q3
          cases key_of_rp q1 ez
          exact ⟨A :: as, (z, _) :: kvs, rfl, .cons (sh.sqT h) hp, by simp [h1], .cons q2 h2⟩
end WS
namespace WS
open PySem PySem.Spec PyProof.Rows L2
end WS
namespace WS
open PySem PySem.Spec PyProof PyProof.Rows PySem.SeqAt
open AutoSeq1 (wpAny_loadPart')
open MeetsSeq
open L2
end WS
namespace WS
open PySem PySem.Spec PyProof.Rows L2
end WS
namespace WS
open PySem PySem.Spec PyProof.Rows L2
def gListT : List D → Option D
  | [.str x] => if x.cps.size ≤ 1000000 then some (.lst (signsD x)) else none
  | ds => gList ds
section
variable {X : Cx}
theorem call_list_t (hc : X.calm = true) : CallR X (.type "list") (fun xs H Q => ∃ x : Str, xs = [.str x] ∧ x.cps.size ≤ 1000000 ∧ ∀ l, H l = none → Q (.ref l) (upd H l (.lst (signsV x)))) := by
  intro pins s σ H xs us Q I r h
  obtain ⟨x, rfl, hl, q⟩ := h
  obtain ⟨u, rfl, rx⟩ := vals1 r
  obtain ⟨t, rfl⟩ := rx
  have hz : x.cps.size ≤ sizeLine := by rw [sizeLine_eq]; omega
  refine call_list_str (I.ok.hd hc) x t (fun h' tk acc' c' hk hS hacc => ?_) hz
  refine ⟨.ref s.heap.objs.size, upd H s.heap.objs.size (.lst (signsV x)), I.laid hk (Nat.le_refl _) (show ObjOk X.prog X.w _ _ _ (.lst (signsV x)) from ⟨?_, acc'.toList, c', ?_, ?_⟩), rfl, q _ (I.hok.fresh (Nat.le_refl _))⟩
  · unfold signsV; rw [List.length_map]; simpa using hz
  · refine vals_of_at (by unfold signsV; simp [hacc.1]) fun j y w h1 h2 => ?_
    obtain ⟨c, u, e1, rfl⟩ := hacc.2 j w (by rw [← Array.getElem?_toList]; exact h2)
    unfold signsV at h1
    rw [List.getElem?_map, Array.getElem?_toList, e1] at h1
    cases h1
    exact ⟨u, rfl⟩
  · rw [Array.toArray_toList]; exact hS
theorem x_listT (hc : X.calm = true) : CallX X (.type "list") gListT := by
  refine ⟨_, (fun pins s σ H xs us Q I r h => ?_ : CallR X (.type "list") (fun xs H Q => (∃ p ys, xs = [.ref p] ∧ (SqL X.K H p ys ∨ SqT X.K H p ys) ∧ ∀ l, H l = none → Q (.ref l) (upd H l (.lst ys))) ∨ ∃ x : Str, xs = [.str x] ∧ x.cps.size ≤ 1000000 ∧ ∀ l, H l = none → Q (.ref l) (upd H l (.lst (signsV x))))), fun S H xs ds z Q sh r eg q => ?_⟩
  · rcases h with h | h
    · exact call_list_of pins s σ H xs us Q I r h
    · exact call_list_t hc pins s σ H xs us Q I r h
  unfold gListT at eg
  split at eg
  · rename_i x
    split at eg
    case isFalse => cases eg
    rename_i hl
    cases eg
    obtain ⟨v, rfl, rv⟩ := one_of r
    cases rv
    exact .inr ⟨x, rfl, hl, fun l hl => q _ _ _ (Grow.add sh hl) (.lst Sx.add_at ((signs_rp x).mono (Grow.add sh hl).le))⟩
  · obtain ⟨rr, hr, hx⟩ := x_list (X := X)
    unfold gList at eg
    split at eg
    · cases eg
      obtain ⟨v, rfl, rv⟩ := one_of r
      cases rv with
      | lst h r => exact .inl ⟨_, _, rfl, .inl (.inl (.inl (sh _ _ h))), fun l hl => q _ _ _ (Grow.add sh hl) (.lst Sx.add_at (r.mono (Grow.add sh hl).le))⟩
    · cases eg
      obtain ⟨v, rfl, rv⟩ := one_of r
      cases rv with
      | rdl h r => exact .inl ⟨_, _, rfl, .inl (sh.sqL h), fun l hl => q _ _ _ (Grow.add sh hl) (.lst Sx.add_at (r.mono (Grow.add sh hl).le))⟩
    · cases eg
      obtain ⟨v, rfl, rv⟩ := one_of r
      cases rv with
      | tup h r => exact .inl ⟨_, _, rfl, .inr (sh.sqT h), fun l hl => q _ _ _ (Grow.add sh hl) (.lst Sx.add_at (r.mono (Grow.add sh hl).le))⟩
    · cases eg
end
end WS
namespace WS
open PySem PySem.Spec PyProof.Rows L2
variable {K : PySem.W.Frag} {σ : L2.St} {H : Hp} {S : Sx} {F : Hp} {ρ : List Sl} {dk dk' : Dk} {p : Addr} {n : Nat} {d : D}
def stOf : Dk → List D
  | some (_, _, _, st) => st
  | none => []
/-- a new thing of the store -/
def born (d : D) : Dk → Option (D × Dk)
  | some (c, a, s, st) => some (.loc st.length, some (c, a, s, st ++ [d]))
  | none => none
/-- a thing of the store is another one now -/
def poke (n : Nat) (d : D) : Dk → Dk
  | some (c, a, s, st) => some (c, a, s, st.set n d)
  | none => none
theorem Rep.look (R : Rep K σ H S F ρ dk) (hl : S.lo[n]? = some p) (hd : (stOf dk)[n]? = some d) : OwnAt K S H p d ∧ S.hp p = none ∧ F p = none ∧ ¬ Owns σ ρ p := by
  have q := R.dka
  cases dk with
  | none => simp [stOf] at hd
  | some x =>
    obtain ⟨cells, at_, sum, st⟩ := x
    obtain ⟨a, c, q1, q2, q3, q4, q5, q6, q7, q8, q9, q10⟩ := q
    obtain ⟨z1, z2, z3, z4, _⟩ := q10.own n p d hl hd
    exact ⟨z1, z2, z3, z4⟩
theorem Rep.loc_st (R : Rep K σ H S F ρ dk) (hl : S.lo[n]? = some p) : ∃ d, (stOf dk)[n]? = some d := by
  have q := R.dka
  cases dk with
  | none => rw [q.2] at hl; simp at hl
  | some x =>
    obtain ⟨cells, at_, sum, st⟩ := x
    obtain ⟨a, c, q1, q2, q3, q4, q5, q6, q7, q8, q9, q10⟩ := q
    have : n < st.length := by rw [← q10.len]; exact (List.getElem?_eq_some_iff.mp hl).1
    exact ⟨_, List.getElem?_eq_getElem this⟩
theorem OwnAt.upd_ne {o : HO} {p' : Addr} {d' : D} (h : OwnAt K S H p' d') (ne : p' ≠ p) : OwnAt K S (upd H p o) p' d' := h.to (Le.refl S) fun u e => by rw [L2.upd_ne ne]; exact e
/-- a thing comes into the store -/
theorem Rep.born {o : HO} {z : D} (R : Rep K σ H S F ρ dk) (hp : H p = none) (hb : WS.born d dk = some (z, dk')) (ho : ∀ S', Le S S' → OwnAt K S' (upd H p o) p d) : ∃ S', Le S S' ∧ Rep K σ (upd H p o) S' F ρ dk' ∧ Rp K S' (.ref p) z := by
  cases dk with
  | none => cases hb
  | some x =>
    obtain ⟨cells, at_, sum, st⟩ := x
    cases hb
    have q := R.dka
    obtain ⟨a, c, q1, q2, q3, q4, q5, q6, q7, q8, q9, q10⟩ := q
    have le : Le S ⟨S.hp, S.da, S.lo ++ [p]⟩ := ⟨Sub.refl _, fun _ e => e, fun n a e => by
      rw [List.getElem?_append_left (List.getElem?_eq_some_iff.mp e).1]; exact e⟩
    have np : ∀ b o', H b = some o' → b ≠ p := fun b o' e z => by rw [z, hp] at e; cases e
    have gh : Sub H (upd H p o) := Sub.new hp
    have atl : (S.lo ++ [p])[st.length]? = some p := by rw [← q10.len]; simp
    refine ⟨⟨S.hp, S.da, S.lo ++ [p]⟩, le, ⟨R.sh.trans gh, R.fh.trans gh, R.fs, R.len, fun i s e => ?_, R.dist, ?_⟩, .loc atl⟩
    · have z := R.env i s e
      cases s with
      | no => trivial
      | val c => obtain ⟨u, z1, z2⟩ := z; exact ⟨u, z1, z2.mono le⟩
      | own c => obtain ⟨p', z1, z2, z3⟩ := z; exact ⟨p', z1, z2.grow le gh, z3⟩
    · refine ⟨a, c, q1, gh _ _ q2, gh _ _ q3, q4, q5, q6, q7, q8, q9, ⟨by simp [q10.len], ?_, fun n p' d' h1 h2 => ?_⟩⟩
      · refine List.nodup_append.mpr ⟨q10.nd, by simp, fun x hx y hy => ?_⟩
        rw [List.mem_singleton.mp hy]
        exact fun e => R.fresh_lo hp (e ▸ hx)
      · by_cases hn : n < st.length
        · have h1' : S.lo[n]? = some p' := by
            rw [List.getElem?_append_left (by rw [q10.len]; exact hn)] at h1; exact h1
          rw [List.getElem?_append_left hn] at h2
          obtain ⟨z1, z2⟩ := q10.own n p' d' h1' h2
          exact ⟨z1.grow le gh, z2⟩
        · have hn2 : n = st.length := by
            have := (List.getElem?_eq_some_iff.mp h2).1
            simp at this
            omega
          subst hn2
          rw [atl] at h1
          cases h1
          have h2' : d' = d := by simpa using h2.symm
          subst h2'
          refine ⟨ho _ le, R.sh.none hp, R.fh.none hp, fun ⟨i, e, z1, z2⟩ => ?_, fun z => np a _ q2 z.symm, fun z => np c _ q3 z.symm⟩
          obtain ⟨p', y1, y2, _⟩ := R.env i _ z1
          rw [z2] at y1; cases y1
          obtain ⟨u, hu⟩ := y2.at
          rw [hp] at hu; cases hu
/-- a thing of the store changes -/
theorem Rep.poke {o : HO} (R : Rep K σ H S F ρ dk) (hl : S.lo[n]? = some p) (ho : OwnAt K S (upd H p o) p d) : Rep K σ (upd H p o) S F ρ (WS.poke n d dk) := by
  have q := R.dka
  cases dk with
  | none => rw [q.2] at hl; simp at hl
  | some x =>
    obtain ⟨cells, at_, sum, st⟩ := x
    obtain ⟨d0, hd0⟩ := R.loc_st hl
    obtain ⟨w1, w2, w3, w4⟩ := R.look hl hd0
    obtain ⟨a, c, q1, q2, q3, q4, q5, q6, q7, q8, q9, q10⟩ := q
    obtain ⟨_, _, _, _, na, nc⟩ := q10.own n p d0 hl hd0
    refine ⟨fun b u e => ?_, fun b u e => ?_, R.fs, R.len, fun i s e => ?_, R.dist, ?_⟩
    · rw [L2.upd_ne (ne_of_none e w2)]; exact R.sh _ _ e
    · rw [L2.upd_ne (ne_of_none e w3)]; exact R.fh _ _ e
    · have z := R.env i s e
      cases s with
      | no => trivial
      | val c => exact z
      | own c =>
        obtain ⟨p', z1, z2, z3⟩ := z
        exact ⟨p', z1, z2.upd_ne (fun y => w4 (by rw [← y]; exact ⟨i, c, e, z1⟩)), z3⟩
    · refine ⟨a, c, q1, by rw [L2.upd_ne (Ne.symm na)]; exact q2, by rw [L2.upd_ne (Ne.symm nc)]; exact q3, q4, q5, q6, q7, q8, q9, ⟨by simp [q10.len], q10.nd, fun m p' d' h1 h2 => ?_⟩⟩
      by_cases hm : n = m
      · subst hm
        rw [hl] at h1; cases h1
        have hn : n < st.length := (List.getElem?_eq_some_iff.mp hd0).1
        rw [List.getElem?_set_self hn] at h2
        cases h2
        exact ⟨ho, w2, w3, w4, na, nc⟩
      · rw [List.getElem?_set_ne hm] at h2
        obtain ⟨z1, z2⟩ := q10.own m p' d' h1 h2
        refine ⟨z1.upd_ne fun y => ?_, z2⟩
        subst y
        obtain ⟨x1, x2⟩ := List.getElem?_eq_some_iff.mp hl
        obtain ⟨y1, y2⟩ := List.getElem?_eq_some_iff.mp h1
        exact hm ((List.getElem_inj q10.nd).mp (x2.trans y2.symm))
end WS
namespace WS
open PySem PySem.Spec PyProof.Rows L2
/-- a thing, as it is now, n deep -/
def drf : Nat → List D → D → D
  | n + 1, st, .loc i => match st[i]? with
    | some (.lst ds) => .lst (ds.map (drf n st))
    | some (.dct ks vs) => .dct ks (vs.map (drf n st))
    | _ => .loc i
  | _, _, d => d
mutual
/-- no list and no dict in it -/
def nl : D → Bool
  | .lst _ => false
  | .rdl _ => false
  | .dct _ _ => false
  | .tup xs => nls xs
  | .ins _ _ xs => nls xs
  | _ => true
def nls : List D → Bool
  | [] => true
  | x :: xs => nl x && nls xs
end
section
variable {K : PySem.W.Frag} {σ : L2.St} {H : Hp} {S : Sx} {F : Hp} {ρ : List Sl} {dk : Dk}
/-- a list or a dict -/
def isLD : Option HO → Bool
  | some (.lst _) => true
  | some (.dK _) => true
  | _ => false
noncomputable def lentS (S : Sx) (H : Hp) : Sx := ⟨fun a => open Classical in if a ∈ S.lo ∧ isLD (H a) = true then H a else S.hp a, S.da, S.lo⟩
noncomputable def backS (S S2 : Sx) : Sx := ⟨fun a => open Classical in if a ∈ S.lo then none else S2.hp a, S2.da, S2.lo⟩
theorem lent_in {a : Addr} (h : a ∈ S.lo) (h2 : isLD (H a) = true) : (lentS S H).hp a = H a := if_pos ⟨h, h2⟩
theorem lent_out {a : Addr} (h : ¬ (a ∈ S.lo ∧ isLD (H a) = true)) : (lentS S H).hp a = S.hp a := if_neg h
theorem back_in {S2 : Sx} {a : Addr} (h : a ∈ S.lo) : (backS S S2).hp a = none := if_pos h
theorem back_out {S2 : Sx} {a : Addr} (h : a ∉ S.lo) : (backS S S2).hp a = S2.hp a := if_neg h
theorem Rep.lo_none (R : Rep K σ H S F ρ dk) {a : Addr} (h : a ∈ S.lo) : S.hp a = none := by
  obtain ⟨n, hn⟩ := List.getElem?_of_mem h
  obtain ⟨d, hd⟩ := R.loc_st hn
  exact (R.look hn hd).2.1
theorem Rep.lent_sub (R : Rep K σ H S F ρ dk) : Sub (lentS S H).hp H := fun a o e => by
  by_cases h : a ∈ S.lo ∧ isLD (H a) = true
  · rw [lent_in h.1 h.2] at e; exact e
  · rw [lent_out h] at e; exact R.sh _ _ e
theorem Rep.lent_le (R : Rep K σ H S F ρ dk) : Le S (lentS S H) := ⟨fun a o e => by
  rw [lent_out fun h => by rw [R.lo_none h.1] at e; cases e]; exact e, fun _ e => e, fun _ _ e => e⟩
mutual
theorem Rep.drf (R : Rep K σ H S F ρ dk) : ∀ (n : Nat) {v : V} {d : D}, Rp K S v d → Rp K (lentS S H) v (WS.drf n (stOf dk) d)
  | 0, v, d, h => by
    have e : WS.drf 0 (stOf dk) d = d := by unfold WS.drf; rfl
    rw [e]; exact h.mono R.lent_le
  | n + 1, v, d, h => by
    have e : (∀ i, d ≠ .loc i) → WS.drf (n + 1) (stOf dk) d = d := fun h => by cases d <;> first | rfl | exact absurd rfl (h _)
    by_cases c : ∃ i, d = .loc i
    · obtain ⟨i, rfl⟩ := c
      cases h with
      | loc hl =>
        rename_i a
        obtain ⟨d, hd⟩ := R.loc_st hl
        obtain ⟨w1, _⟩ := R.look hl hd
        have hm : a ∈ S.lo := List.mem_of_getElem? hl
        unfold WS.drf
        rw [hd]
        cases d with
        | lst ds =>
          obtain ⟨xs, e, r⟩ := w1
          exact .lst (by rw [lent_in hm (by rw [e]; rfl)]; exact e) (R.drfL n r)
        | dct ks vs =>
          obtain ⟨kvs, e, k, r⟩ := w1
          exact .dct (.inl (by rw [lent_in hm (by rw [e]; rfl)]; exact e)) k rfl (R.drfL n r)
        | _ => exact .loc hl
    · rw [e fun i z => c ⟨i, z⟩]
      exact h.mono R.lent_le
theorem Rep.drfL (R : Rep K σ H S F ρ dk) : ∀ (n : Nat) {vs : List V} {ds : List D}, RpL K S vs ds → RpL K (lentS S H) vs (ds.map (WS.drf n (stOf dk)))
  | n, _, _, .nil => .nil
  | n, _, _, .cons h t => .cons (R.drf n h) (R.drfL n t)
end
mutual
theorem nl_back {S2 : Sx} (kf : ∀ a o, S2.hp a = some o → isLD (some o) = false → (backS S S2).hp a = some o) : ∀ {v : V} {z : D}, Rp K S2 v z → nl z = true → Rp K (backS S S2) v z
  | _, _, .non, _ => .non
  | _, _, .bl b, _ => .bl b
  | _, _, .int i, _ => .int i
  | _, _, .str x, _ => .str x
  | _, _, .tup h r, e => by
    refine .tup ?_ (nls_back kf r (by unfold nl at e; exact e))
    refine h.imp (fun h => ?_) id
    rcases h with h | ⟨o, h⟩
    · exact .inl (kf _ _ h rfl)
    · exact .inr ⟨o, kf _ _ h rfl⟩
  | _, _, .lst _ _, e => by unfold nl at e; cases e
  | _, _, .rdl _ _, e => by unfold nl at e; cases e
  | _, _, .ins h c x a b r, e => .ins (kf _ _ h rfl) c x a b (nls_back kf r (by unfold nl at e; exact e))
  | _, _, .exc h c x g a b r, e => .exc (kf _ _ h rfl) c x (kf _ _ g rfl) a b (nls_back kf r (by unfold nl at e; exact e))
  | _, _, .exc0 h c x, _ => .exc0 (kf _ _ h rfl) c x
  | _, _, .ty n, _ => .ty n
  | _, _, .obj a, _ => .obj a
  | _, _, .fn h, _ => .fn h
  | _, _, .dct _ _ _ _, e => by unfold nl at e; cases e
  | _, _, .deck h, _ => .deck h
  | _, _, .loc h, _ => .loc h
theorem nls_back {S2 : Sx} (kf : ∀ a o, S2.hp a = some o → isLD (some o) = false → (backS S S2).hp a = some o) : ∀ {vs : List V} {zs : List D}, RpL K S2 vs zs → nls zs = true → RpL K (backS S S2) vs zs
  | _, _, .nil, _ => .nil
  | _, _, .cons h t, e => by
    unfold nls at e
    rw [Bool.and_eq_true] at e
    exact .cons (nl_back kf h e.1) (nls_back kf t e.2)
end
/-- given back -/
theorem Rep.given (R : Rep K σ H S F ρ dk) {H' : Hp} {S2 : Sx} (g : Grow (lentS S H) H S2 H') : Le S (backS S S2) ∧ Rep K σ H' (backS S S2) F ρ dk ∧ ∀ {v : V} {z : D}, Rp K S2 v z → nl z = true → Rp K (backS S S2) v z := by
  have gr : Grow S H (backS S S2) H' := by
    refine ⟨fun a o e => ?_, g.d, g.l, fun a o e => ?_, g.h, fun a o e h => ?_⟩
    · have ha : a ∉ S.lo := fun h => by rw [R.lo_none h] at e; cases e
      rw [back_out ha]
      exact g.s _ _ (by rw [lent_out fun h => ha h.1]; exact e)
    · by_cases ha : a ∈ S.lo
      · rw [back_in ha] at e; cases e
      · rw [back_out ha] at e; exact g.sh _ _ e
    · by_cases ha : a ∈ S.lo
      · exact back_in ha
      · rw [back_out ha]
        exact g.n a o e (by rw [lent_out fun h => ha h.1]; exact h)
  refine ⟨gr.le, R.grow gr, fun {v z} r e => nl_back (fun a o h hz => ?_) r e⟩
  have ha : a ∉ S.lo := fun hm => by
    obtain ⟨n, hn⟩ := List.getElem?_of_mem hm
    obtain ⟨d, hd⟩ := R.loc_st hn
    obtain ⟨u, hu⟩ := (R.look hn hd).1.at
    by_cases hi : isLD (H a) = true
    · have := g.s a u (by rw [lent_in hm hi]; exact hu)
      rw [h] at this
      cases this
      rw [hu] at hi
      rw [hz] at hi; cases hi
    · have := g.n a u hu (by rw [lent_out fun h => hi h.2]; exact R.lo_none hm)
      rw [h] at this; cases this
  rw [back_out ha]; exact h
end
def eOpS (n : Nat) (g : D → D → Option D) (a b : E) : E := fun ρ k => (a ρ k).bind fun x => (b x.2.1 x.2.2).bind fun y => (g (drf n (stOf y.2.2) x.1) (drf n (stOf y.2.2) y.1)).bind fun z => if nl z = true then some (z, y.2.1, y.2.2) else none
def eUnS (n : Nat) (g : D → Option D) (a : E) : E := fun ρ k => (a ρ k).bind fun x => (g (drf n (stOf x.2.2) x.1)).bind fun z => if nl z = true then some (z, x.2.1, x.2.2) else none
def eAppS (n : Nat) (g : List D → Option D) (a : EL) : E := fun ρ k => (a ρ k).bind fun x => (g (x.1.map (drf n (stOf x.2.2)))).bind fun z => if nl z = true then some (z, x.2.1, x.2.2) else none
section
variable {K : PySem.W.Frag} {σ : L2.St} {H : Hp} {Q : VK} {n : Nat}
theorem tev_opS {r : R2} {g : D → D → Option D} {fa fb : E} (hr : OpD K r g) (h : TEv K (eOpS n g fa fb) σ H Q) : tOp r (TEv K fa) (TEv K fb) σ H Q := by
  obtain ⟨S, F, ρ, dk, d, ρ', dk', R, e, q⟩ := h
  unfold eOpS at e
  obtain ⟨⟨da, ρ1, k1⟩, ea, e⟩ := Option.bind_eq_some_iff.mp e
  obtain ⟨⟨db, ρ2, k2⟩, eb, e⟩ := Option.bind_eq_some_iff.mp e
  obtain ⟨z, eg, e⟩ := Option.bind_eq_some_iff.mp e
  split at e
  case isFalse => cases e
  rename_i hz
  cases e
  refine ⟨S, F, ρ, dk, da, ρ1, k1, R, ea, fun v H1 S1 l1 R1 rv => ⟨S1, F, ρ1, k1, db, _, _, R1, eb, fun u H2 S2 l2 R2 ru => ?_⟩⟩
  refine hr (lentS S2 H2) H2 v u _ _ _ Q R2.lent_sub (R2.drf n (rv.mono l2)) (R2.drf n ru) eg fun w S' H' gr rw' => ?_
  obtain ⟨l3, R3, b⟩ := R2.given gr
  exact q w H' _ ((l1.trans l2).trans l3) R3 (b rw' hz)
theorem tev_appS {t : TA → TE} {r : List V → Hp → VK → Prop} {g : List D → Option D} {fs : EL} (ht : ∀ t' σ H Q, t' σ H (fun xs H1 => r xs H1 Q) → t t' σ H Q) (hr : CallD K r g) (h : TEv K (eAppS n g fs) σ H Q) : t (TAv K fs) σ H Q := by
  obtain ⟨S, F, ρ, dk, d, ρ', dk', R, e, q⟩ := h
  unfold eAppS at e
  obtain ⟨⟨da, ρ1, k1⟩, ea, e⟩ := Option.bind_eq_some_iff.mp e
  obtain ⟨z, eg, e⟩ := Option.bind_eq_some_iff.mp e
  split at e
  case isFalse => cases e
  rename_i hz
  cases e
  refine ht _ _ _ _ ⟨S, F, ρ, dk, da, _, _, R, ea, fun vs H1 S1 l1 R1 rv => ?_⟩
  refine hr (lentS S1 H1) H1 vs _ _ Q R1.lent_sub (R1.drfL n rv) eg fun w S' H' gr rw' => ?_
  obtain ⟨l3, R3, b⟩ := R1.given gr
  exact q w H' _ (l1.trans l3) R3 (b rw' hz)
end
section
variable {X : Cx} {a b : Expr} {es : List Expr} {fa fb : E} {fs : EL} {pos : Pos} {n : Nat}
theorem d_ixS {g : D → D → Option D} (ho : IxX X g) (ha : PE X a (TEv X.K fa)) (hb : PE X b (TEv X.K fb)) (hs : PlainIx b) : PE X (.Subscript a b pos) (TEv X.K (eOpS n g fa fb)) := by
  obtain ⟨r, h1, h2⟩ := ho
  exact (pe_ix h1 ha hb hs).imp fun _ _ _ h => tev_opS h2 h
theorem q_cmpS {op : CmpOp} {g : D → D → Option D} (ho : OpX X (compareOp op) g) (ha : PE X a (TEv X.K fa)) (hb : PE X b (TEv X.K fb)) (hm : behindInMarks op b = false) : PT X (.Compare a [op] [b] pos) (TTv X.K (eOpS n g fa fb)) := by
  obtain ⟨r, h1, h2⟩ := ho
  exact (pt_cmpR h1 ha hb hm).imp fun _ _ _ h => tev_opS h2 (ttv_val h)
theorem d_callBS {id : String} {x : Str} {p : Pos} {g : List D → Option D} (hc : CallX X (.builtin id) g) (hg : Gl X x) (hm : X.mg x = none) (hv : bootBuiltins x = some (.builtin id)) (ha : PA X (a :: es) (TAv X.K fs)) (hn : x ≠ "__name__" := by decide) (hdb : (x == ("__debug__" : Str)) = false := by decide)
    (he : starEach (a :: es) X.env = (false, eval a X.env) :: starEach es X.env := by kernel_rfl!) (hpl : (backTo pos (starEach es X.env)).any (·.1) = false := by kernel_rfl!) : PE X (.Call (.Name x p) (a :: es) [] pos) (TEv X.K (eAppS n g fs)) := by
  obtain ⟨r, h1, h2⟩ := hc
  exact (pe_callB h1 hg hm hv ha hn hdb he hpl).imp fun _ _ _ h => tev_appS (t := tCB r) (r := r) (fun _ _ _ _ h => h) h2 h
theorem d_callTyS {T : String} {x : Str} {p : Pos} {g : List D → Option D} (hc : CallX X (.type T) g) (hg : Gl X x) (hm : X.mg x = none) (hv : bootBuiltins x = some (.type T)) (ha : PA X (a :: es) (TAv X.K fs)) (hn : x ≠ "__name__" := by decide) (hdb : (x == ("__debug__" : Str)) = false := by decide)
    (he : starEach (a :: es) X.env = (false, eval a X.env) :: starEach es X.env := by kernel_rfl!) (hpl : (backTo pos (starEach es X.env)).any (·.1) = false := by kernel_rfl!) : PE X (.Call (.Name x p) (a :: es) [] pos) (TEv X.K (eAppS n g fs)) := by
  obtain ⟨r, h1, h2⟩ := hc
  exact (pe_callTy h1 hg hm hv ha hn hdb he hpl).imp fun _ _ _ h => tev_appS (t := tCB r) (r := r) (fun _ _ _ _ h => h) h2 h
end
end WS
namespace WS
open PySem PySem.Spec PyProof.Rows L2
/-- [..], a new list of the store -/
def eNewL (a : EL) : E := fun ρ k => (a ρ k).bind fun x => if x.1.length ≤ sizeLine then (born (.lst x.1) x.2.2).map fun y => (y.1, x.2.1, y.2) else none
/-- list(..), a new list of the store -/
def seqOf : D → Option (List D)
  | .lst ds => some ds
  | .rdl ds => some ds
  | .tup ds => some ds
  | _ => none
def eListN (a : E) : E := fun ρ k => (a ρ k).bind fun x => (seqOf (drf 1 (stOf x.2.2) x.1)).bind fun ds => (born (.lst ds) x.2.2).map fun y => (y.1, x.2.1, y.2)
section
variable {K : PySem.W.Frag} {σ : L2.St} {H : Hp} {Q : VK} {S : Sx} {F : Hp} {ρ : List Sl} {dk : Dk}
theorem tev_newL {fs : EL} (h : TEv K (eNewL fs) σ H Q) : tLst (TAv K fs) σ H Q := by
  obtain ⟨S, F, ρ, dk, d, ρ', dk', R, e, q⟩ := h
  unfold eNewL at e
  obtain ⟨⟨ds, ρ1, k1⟩, ea, e⟩ := Option.bind_eq_some_iff.mp e
  split at e
  case isFalse => cases e
  rename_i hl
  obtain ⟨⟨z, k2⟩, eb, e⟩ := Option.map_eq_some_iff.mp e
  cases e
  refine ⟨S, F, ρ, dk, ds, ρ1, k1, R, ea, fun vs H1 S1 l1 R1 rv => ⟨by rw [rv.length]; exact hl, fun p hp => ?_⟩⟩
  obtain ⟨S2, l2, R2, rz⟩ := R1.born (o := .lst vs) hp eb fun S' l => ⟨vs, upd_same, rv.mono l⟩
  exact q _ _ S2 (l1.trans l2) R2 rz
/-- the items of a thing that stands, of the store or not -/
theorem Rep.items (R : Rep K σ H S F ρ dk) {v : V} {d : D} {ds : List D} (r : Rp K S v d) (e : seqOf (WS.drf 1 (stOf dk) d) = some ds) : ∃ a xs, v = .ref a ∧ (SqL K H a xs ∨ SqT K H a xs) ∧ RpL K S xs ds := by
  by_cases c : ∃ i, d = .loc i
  · obtain ⟨i, rfl⟩ := c
    cases r with
    | loc hl =>
      obtain ⟨d, hd⟩ := R.loc_st hl
      obtain ⟨w1, _⟩ := R.look hl hd
      unfold WS.drf at e
      rw [hd] at e
      cases d with
      | lst es =>
        have e' : seqOf (.lst (es.map (WS.drf 0 (stOf dk)))) = some ds := e
        have : es.map (WS.drf 0 (stOf dk)) = es := by
          have : WS.drf 0 (stOf dk) = id := by funext d; unfold WS.drf; rfl
          rw [this, List.map_id]
        rw [this] at e'
        cases e'
        obtain ⟨xs, e1, r1⟩ := w1
        exact ⟨_, xs, rfl, .inl (.inl (.inl e1)), r1⟩
      | _ => cases e
  · have ed : WS.drf 1 (stOf dk) d = d := by cases d <;> first | rfl | exact absurd ⟨_, rfl⟩ c
    rw [ed] at e
    cases r with
    | lst h q => cases e; exact ⟨_, _, rfl, .inl (.inl (.inl (R.sh _ _ h))), q⟩
    | rdl h q => cases e; exact ⟨_, _, rfl, .inl (R.sh.sqL h), q⟩
    | tup h q => cases e; exact ⟨_, _, rfl, .inr (R.sh.sqT h), q⟩
    | _ => cases e
theorem tev_listN {X : Cx} {fe : E} (h : TEv X.K (eListN fe) σ H Q) : tCB (fun xs H Q => ∃ p ys, xs = [V.ref p] ∧ (SqL X.K H p ys ∨ SqT X.K H p ys) ∧ ∀ l, H l = none → Q (.ref l) (upd H l (.lst ys))) (tCons (TEv X.K fe) tNil) σ H Q := by
  obtain ⟨S, F, ρ, dk, d, ρ', dk', R, e, q⟩ := h
  unfold eListN at e
  obtain ⟨⟨d1, ρ1, k1⟩, ea, e⟩ := Option.bind_eq_some_iff.mp e
  obtain ⟨ds, es, e⟩ := Option.bind_eq_some_iff.mp e
  obtain ⟨⟨z, k2⟩, eb, e⟩ := Option.map_eq_some_iff.mp e
  cases e
  refine ⟨S, F, ρ, dk, d1, ρ1, k1, R, ea, fun v H1 S1 l1 R1 rv => ?_⟩
  obtain ⟨a, xs, rfl, hx, rx⟩ := R1.items rv es
  refine ⟨a, xs, rfl, hx, fun p hp => ?_⟩
  obtain ⟨S2, l2, R2, rz⟩ := R1.born (o := .lst xs) hp eb fun S' l => ⟨xs, upd_same, rx.mono l⟩
  exact q _ _ S2 (l1.trans l2) R2 rz
end
section
variable {X : Cx} {es : List Expr} {fs : EL} {a : Expr} {fa : E} {p pos : Pos}
theorem d_newL (ha : PA X es (TAv X.K fs)) : PE X (.List es pos) (TEv X.K (eNewL fs)) := (pe_lst ha).imp fun _ _ _ h => tev_newL h
theorem d_listN (hg : Gl X "list") (hm : X.mg "list" = none) (hv : bootBuiltins "list" = some (.type "list")) (ha : PE X a (TEv X.K fa))
    (he : starEach [a] X.env = (false, eval a X.env) :: starEach [] X.env := by kernel_rfl!) (hpl : (backTo pos (starEach [] X.env)).any (·.1) = false := by kernel_rfl!) : PE X (.Call (.Name "list" p) [a] [] pos) (TEv X.K (eListN fa)) :=
  (pe_callTy call_list_of hg hm hv (pa_cons ha pa_nil he) (by decide) (by decide) he hpl).imp fun _ _ _ h => tev_listN h
end
end WS
namespace WS
open PySem PySem.Spec PyProof.Rows L2
/-- the item at a place, as things are -/
abbrev Nx := Nat → Dk → Option (Option D)
abbrev SrcG := List Sl → Dk → Option (Nx × Nat × List Sl × Dk)
def nxL (n : Nat) : Nx := fun i k => match (stOf k)[n]? with
  | some (.lst ds) => some ds[i]?
  | _ => none
def srcL (e : E) : SrcG := fun ρ k => (e ρ k).bind fun x => match x.1 with
  | .loc n => match (stOf x.2.2)[n]? with
    | some (.lst ds) => some (nxL n, ds.length + 1, x.2.1, x.2.2)
    | _ => none
  | _ => none
def gCompGo (vs : List Nat) (g : Tg) (tt elt : E) (nx : Nx) : Nat → Nat → EL
  | 0, _ => fun _ _ => none
  | f + 1, i => fun ρ k => (nx i k).bind fun o => match o with
    | none => some ([], ρ, k)
    | some d => (g d ρ).bind fun ρ1 => (tt ρ1 k).bind fun b => match b.1 with
      | .bl true => (elt b.2.1 b.2.2).bind fun y => (gCompGo vs g tt elt nx f (i + 1) (wipeS y.2.1 vs) y.2.2).map fun z => (y.1 :: z.1, z.2)
      | .bl false => gCompGo vs g tt elt nx f (i + 1) (wipeS b.2.1 vs) b.2.2
      | _ => none
def gComp0 (src : SrcG) (vs : List Nat) (g : Tg) (tt elt : E) : EL := fun ρ k => (src ρ k).bind fun x => if x.2.1 < sizeLine then gCompGo vs g tt elt x.1 x.2.1 0 (wipeS x.2.2.1 vs) x.2.2.2 else none
/-- its list, finished -/
def eCompG (src : SrcG) (vs : List Nat) (g : Tg) (tt elt : E) : E := fun ρ k => (gComp0 src vs g tt elt ρ k).map fun y => (.lst y.1, y.2)
def ItG (K : PySem.W.Frag) (S : Sx) (J : It) (nx : Nx) : Prop := ∀ (σ1 : L2.St) (H1 : Hp) (S1 : Sx) (F1 : Hp) (ρ1 : List Sl) (k1 : Dk), Le S S1 → Rep K σ1 H1 S1 F1 ρ1 k1 → ∀ (i : Nat) (o : Option D), nx i k1 = some o →
  (∀ d, o = some d → J.go i H1 ∧ ∀ x H2, J.yld i H1 x H2 → ∃ S2, Grow S1 H1 S2 H2 ∧ Rp K S2 x d) ∧ (o = none → J.stop i H1)
def TIg (K : PySem.W.Frag) (f : SrcG) : TI := fun σ H R => ∃ S F ρ dk nx n ρ' dk', Rep K σ H S F ρ dk ∧ f ρ dk = some (nx, n, ρ', dk') ∧
  ∀ J H' S', Le S S' → Rep K σ H' S' F ρ' dk' → ItG K S' J nx → R J H'
section
variable {K : PySem.W.Frag} {σ : L2.St} {H H' : Hp} {S S' : Sx} {F : Hp} {ρ : List Sl} {dk : Dk} {W : WX}
theorem tev_compG {src : SrcG} {vs : List Nat} {g : Tg} {tt elt : E} {Q : VK} (h : TEv K (eCompG src vs g tt elt) σ H Q) : tLc (TIg K src) (TGv K vs g) (TTv K tt) (TEv K elt) vs σ H Q := by
  obtain ⟨S, F, ρ, dk, d, ρ', dk', R, e, q⟩ := h
  unfold eCompG gComp0 at e
  obtain ⟨⟨ys, ρf, kf⟩, e0, e⟩ := Option.map_eq_some_iff.mp e
  obtain ⟨⟨nx, n, ρ1, k1⟩, ea, ec⟩ := Option.bind_eq_some_iff.mp e0
  simp only at ec
  split at ec
  case isFalse => cases ec
  rename_i hlen
  simp only [Option.some.injEq, Prod.mk.injEq] at e
  obtain ⟨ed, er, ek⟩ := e
  subst ed er ek
  refine ⟨S, F, ρ, dk, nx, n, ρ1, k1, R, ea, fun J H1 S1 l1 R1 it => fun A hA => ?_⟩
  have nF : F A = none := R1.fh.none hA
  have lσ : (wipe σ vs).length = σ.length := wipe_length σ vs
  have R1w : Rep K (wipe σ vs) H1 S1 F (wipeS ρ1 vs) k1 := R1.wiped lσ fun i hi => wipe_get hi
  refine ⟨fun i m H => ∃ fu, m = fu ∧ fu + i = n ∧ ∃ S2 ρ2 k2 acc done rest, Le S1 S2 ∧ Rep K (wipe σ vs) H S2 (upd F A (.lst acc)) ρ2 k2 ∧ RpL K S2 acc done ∧ done ++ rest = ys ∧ acc.length ≤ i ∧
    gCompGo vs g tt elt nx fu i ρ2 k2 = some (rest, ρf, kf), ⟨n, n, rfl, rfl, S1, _, k1, [], [], ys, Le.refl S1, R1w.frame hA, .nil, rfl, Nat.le_refl _, ec⟩, ?_⟩
  rintro i m H2 ⟨fu, hm, hn, S2, ρ2, k2, acc, done, rest, l2, R2, ra, hdr0, hacc, e2⟩
  subst hm
  cases m with
  | zero => cases e2
  | succ fu =>
  have e20 := e2
  unfold gCompGo at e2
  cases hx : nx i k2 with
  | none => rw [hx] at e2; cases e2
  | some o2 =>
  obtain ⟨it1, it2⟩ := it _ H2 S2 _ ρ2 k2 l2 R2 i o2 hx
  rw [hx] at e2
  simp only [Option.bind_some] at e2
  cases o2 with
  | none =>
    simp only [Option.some.injEq, Prod.mk.injEq] at e2
    obtain ⟨er2, eρ2, ek2⟩ := e2
    subst er2 eρ2 ek2
    rw [List.append_nil] at hdr0
    subst hdr0
    refine .inl ⟨it2 rfl, ?_⟩
    have spA : S2.hp A = none := R2.fs _ _ upd_same
    have leA : Le S2 (S2.add A (.lst acc)) := ⟨Sub.new spA, fun a e => e, fun _ _ e => e⟩
    have R3 : Rep K (wipe σ vs) H2 (S2.add A (.lst acc)) F ρ2 k2 := R2.unframe nF
    refine q (.ref A) H2 _ ((l1.trans l2).trans leA) ?_ (.lst Sx.add_at (ra.mono leA))
    -- the slots as they were ahead
    have nov : ∀ v, v ∈ vs → ∀ s, ρ2[v]? = some s → s = .no := by
      have w0 : ∀ ρc : List Sl, ∀ v, v ∈ vs → ∀ s, (wipeS ρc vs)[v]? = some s → s = .no := fun ρc v hv s hs => by
        rcases wipeS_get hs with z | ⟨_, z⟩
        · exact z
        · exact absurd hv z
      have key : ∀ (fu i : Nat) (ρa : List Sl) (ka : Dk) (r : List D) (ρb : List Sl) (kb : Dk), (∀ v, v ∈ vs → ∀ s, ρa[v]? = some s → s = .no) → gCompGo vs g tt elt nx fu i ρa ka = some (r, ρb, kb) → ∀ v, v ∈ vs → ∀ s, ρb[v]? = some s → s = .no := by
        intro fu
        induction fu with
        | zero => intro i ρa ka r ρb kb h0 hh; cases hh
        | succ fu ih =>
          intro i ρa ka r ρb kb h0 hh
          unfold gCompGo at hh
          obtain ⟨o3, h3, hh⟩ := Option.bind_eq_some_iff.mp hh
          cases o3 with
          | none => cases hh; exact h0
          | some d =>
            obtain ⟨ρ1, h1, hh⟩ := Option.bind_eq_some_iff.mp hh
            obtain ⟨b, h2, hh⟩ := Option.bind_eq_some_iff.mp hh
            split at hh
            · obtain ⟨y, h4, hh⟩ := Option.bind_eq_some_iff.mp hh
              obtain ⟨⟨z1, z2, z3⟩, h5, hh⟩ := Option.map_eq_some_iff.mp hh
              cases hh
              exact ih _ _ _ _ _ _ (w0 _) h5
            · exact ih _ _ _ _ _ _ (w0 _) hh
            · cases hh
      exact key n 0 (wipeS ρ1 vs) k1 _ _ _ (fun v hv s hs => w0 _ v hv s hs) ec
    have ini : ∀ i s, ρ2[i]? = some s → s ≠ .no → i ∉ vs := fun i s e n z => n (nov i z s e)
    refine ⟨R3.sh, R3.fh, R3.fs, by rw [← lσ]; exact R3.len, fun i s e => ?_, fun i j d e p h1 h2 h3 h4 => ?_, R3.dka.imp fun a ⟨i, d, h1, h2⟩ => ?_⟩
    · have z := R3.env i s e
      cases s with
      | no => trivial
      | val d => obtain ⟨v, z1, z2⟩ := z; exact ⟨v, by rw [← wipe_get (vs := vs) (ini i _ e (fun z => by cases z))]; exact z1, z2⟩
      | own d => obtain ⟨p, z1, z2⟩ := z; exact ⟨p, by rw [← wipe_get (vs := vs) (ini i _ e (fun z => by cases z))]; exact z1, z2⟩
    · refine R3.dist i j d e p h1 h2 ?_ ?_
      · rw [wipe_get (ini i _ h1 (fun z => by cases z))]; exact h3
      · rw [wipe_get (ini j _ h2 (fun z => by cases z))]; exact h4
    · exact ⟨i, d, h1, by rw [wipe_get (ini i _ h1 (fun z => by cases z))]; exact h2⟩
  | some d =>
    obtain ⟨go, yld⟩ := it1 d rfl
    simp only at e2
    cases eg : g d ρ2 with
    | none => rw [eg] at e2; cases e2
    | some ρ3 =>
      rw [eg] at e2
      simp only [Option.bind_some] at e2
      cases et : tt ρ3 k2 with
      | none => rw [et] at e2; cases e2
      | some b =>
        obtain ⟨bd, ρ4, k4⟩ := b
        rw [et] at e2
        simp only [Option.bind_some] at e2
        refine .inr ⟨go, fun H => ∃ S2 ρ2 k2 acc done rest, Le S1 S2 ∧ Rep K (wipe σ vs) H S2 (upd F A (.lst acc)) ρ2 k2 ∧ RpL K S2 acc done ∧ done ++ rest = ys ∧ acc.length ≤ i + 1 ∧
          gCompGo vs g tt elt nx fu (i + 1) ρ2 k2 = some (rest, ρf, kf), fun H' hN => ⟨fu, by omega, fu, rfl, by omega, hN⟩, fun x H3 hy => ?_⟩
        obtain ⟨S3, gr, rx⟩ := yld x H3 hy
        refine ⟨S3, _, ρ2, k2, d, ρ3, R2.grow gr, rx, eg, fun σ4 H4 S4 l4 R4 len4 off4 => ?_⟩
        have l04 : Le S1 S4 := (l2.trans gr.le).trans l4
        have wl : (wipe σ vs).length = σ4.length := len4.symm
        have wo : ∀ i, i ∉ vs → (wipe σ vs)[i]? = σ4[i]? := fun i hi => (off4 i hi).symm
        refine ⟨?_, ?_⟩
        · refine List.ext_getElem? fun i => ?_
          by_cases hi : i ∈ vs
          · rw [wipe_in (len4.trans lσ) hi]
          · rw [wipe_get hi, off4 i hi, wipe_get hi]
        have more : Rep K (wipe σ vs) H4 S4 _ _ _ := R4.wiped wl wo
        cases bd with
        | bl c =>
          refine ⟨S4, _, ρ3, k2, c, ρ4, k4, R4, et, fun H5 S5 l5 R5 => ?_⟩
          cases c with
          | false => exact ⟨S5, _, k4, acc, done, rest, l04.trans l5, R5.wiped wl wo, ra.mono ((gr.le.trans l4).trans l5), hdr0, Nat.le_succ_of_le hacc, e2⟩
          | true =>
            simp only at e2
            cases ee : elt ρ4 k4 with
            | none => rw [ee] at e2; cases e2
            | some y =>
              obtain ⟨yd, ρ6, k6⟩ := y
              rw [ee] at e2
              simp only [Option.bind_some] at e2
              cases er : gCompGo vs g tt elt nx fu (i + 1) (wipeS ρ6 vs) k6 with
              | none => rw [er] at e2; cases e2
              | some z =>
                obtain ⟨zs, ρ7, k7⟩ := z
                rw [er] at e2
                simp only [Option.map_some] at e2
                cases e2
                refine ⟨S5, _, ρ4, k4, yd, ρ6, k6, R5, ee, fun v H6 S6 l6 R6 rv => ⟨acc, R6.fh _ _ upd_same, by omega, ?_⟩⟩
                refine ⟨S6, _, k6, acc ++ [v], done ++ [yd], zs, (l04.trans l5).trans l6, R6.turnF.wiped wl wo, ?_, ?_, ?_, er⟩
                · exact (ra.mono (((gr.le.trans l4).trans l5).trans l6)).app (.cons rv .nil)
                · rw [List.append_assoc]; exact hdr0
                · simp; exact hacc
        | _ => cases e2
end
section
variable {K : PySem.W.Frag} {σ : L2.St} {H : Hp} {R : It → Hp → Prop}
theorem tig_l {fe : E} (h : TIg K (srcL fe) σ H R) : iList K (TEv K fe) σ H R := by
  obtain ⟨S, F, ρ, dk, nx, n, ρ', dk', R0, e, q⟩ := h
  unfold srcL at e
  obtain ⟨⟨d1, ρ1, k1⟩, ea, e⟩ := Option.bind_eq_some_iff.mp e
  split at e
  case h_2 => cases e
  rename_i m hm
  dsimp only at hm
  subst hm
  split at e
  case h_2 => cases e
  rename_i ds hd
  cases e
  refine ⟨S, F, ρ, dk, _, _, _, R0, ea, fun v H1 S1 l1 R1 rv => ?_⟩
  cases rv with
  | @loc a _ hl =>
    obtain ⟨⟨xs, e1, r1⟩, _⟩ := R1.look hl hd
    refine ⟨a, rfl, ⟨xs, .inl (.inl e1)⟩, q _ H1 S1 l1 R1 fun σ2 H2 S2 F2 ρ2 k2 l2 R2 i o ho => ?_⟩
    unfold nxL at ho
    split at ho
    case h_2 => cases ho
    rename_i es he
    cases ho
    obtain ⟨⟨ys, e2, r2⟩, _⟩ := R2.look (l2.l _ _ hl) he
    have sq : SqL K H2 a ys := .inl (.inl e2)
    refine ⟨fun d hd => ?_, fun hd => ?_⟩
    · obtain ⟨w, hw, rw'⟩ := r2.get hd
      refine ⟨⟨ys, w, sq, hw⟩, fun x H3 ⟨h3, hx⟩ => ?_⟩
      subst h3
      have := hx ys sq
      rw [hw] at this
      cases this
      exact ⟨S2, Grow.refl R2.sh, rw'⟩
    · exact ⟨ys, sq, by rw [r2.length]; exact List.getElem?_eq_none_iff.mp hd⟩
end
section
variable {X : Cx} {tg iter : Expr} {src : SrcG} {sv : EL} {vs : List Nat} {g : Tg} {as : List Stmt} {a : SS} {pos : Pos} {W : WX} {l elt : Expr} {fe tt ft : E} {ifs : List Expr} {scope : Scope} {own : List (Str × Nat)}
theorem g_l (he : PE X l (TEv X.K fe)) : PI X tg l (TIg X.K (srcL fe)) := (pi_list he).imp fun _ _ _ h => tig_l h
theorem d_compG (hc : X.calm = true) (hN : X.N.Nodup) (hi : PI X tg iter (TIg X.K src)) (ok : BlkOk X.N X.env.scope scope own)
    (hg : ∀ (s : Shared) (H : Hp) (C : Addr) (cl : List (Str × Addr)) (fp : List Addr), PG (X.blk s H scope (compEnvC scope cl C X.env) fp) tg (TGv X.K (own.map (·.2)) g))
    (ht : ∀ (s : Shared) (H : Hp) (C : Addr) (cl : List (Str × Addr)) (fp : List Addr), PTs (X.blk s H scope (compEnvC scope cl C X.env) fp) ifs (TTv X.K tt))
    (he : ∀ (s : Shared) (H : Hp) (C : Addr) (cl : List (Str × Addr)) (fp : List Addr), PE (X.blk s H scope (compEnvC scope cl C X.env) fp) elt (TEv X.K ft)) (hs : ∀ x, foldedSetIterable iter X.env x = pure x := by intro _; kernel_rfl!) :
    PE X (.ListComp elt [⟨tg, iter, ifs, 0⟩] scope pos) (TEv X.K (eCompG src (own.map (·.2)) g tt ft)) := (pe_lc hc hN hi ok hg ht he hs).imp fun _ _ _ h => tev_compG h
end
end WS
namespace WS
open PySem PySem.Spec PyProof.Rows L2
def MtS (K : PySem.W.Frag) (r : V → List V → Hp → VK → Prop) (g : List D → List D → Option (D × List D)) : Prop := ∀ (S : Sx) (H : Hp) (p : Addr) (ws vs : List V) (ds xs ds' : List D) (z : D) (Q : VK), Sub S.hp H → H p = some (.lst ws) → RpL K S ws ds → RpL K S vs xs → g ds xs = some (z, ds') →
  (∀ v ws', RpL K S ws' ds' → Rp K S v z → Q v (upd H p (.lst ws'))) → r (.ref p) vs H Q
def mAppend (ds xs : List D) : Option (D × List D) := match xs with
  | [d] => if ds.length < sizeLine then some (.non, ds ++ [d]) else none
  | _ => none
def mPopAt (ds xs : List D) : Option (D × List D) := match xs with
  | [.int i] => if -(2 ^ 63) ≤ i ∧ i < 2 ^ 63 then (seqIndex? i ds.length).bind fun k => ds[k]?.map fun d => (d, ds.eraseIdx k) else none
  | _ => none
/-- o.m(..), o a list of the store -/
def eMtS (g : List D → List D → Option (D × List D)) (fo : E) (fa : EL) : E := fun ρ k => (fo ρ k).bind fun x => match x.1 with
  | .loc n => match (stOf x.2.2)[n]? with
    | some (.lst _) => (fa x.2.1 x.2.2).bind fun y => match (stOf y.2.2)[n]? with
      | some (.lst ds) => (g ds y.1).map fun z => (z.1, y.2.1, poke n (.lst z.2) y.2.2)
      | _ => none
    | _ => none
  | _ => none
section
variable {K : PySem.W.Frag} {σ : L2.St} {H : Hp} {Q : VK}
theorem RpL.dropLast {S : Sx} {vs : List V} {ds : List D} (h : RpL K S vs ds) : RpL K S vs.dropLast ds.dropLast := by
  have := RpL.take (vs.length - 1) h
  rw [List.dropLast_eq_take, List.dropLast_eq_take, ← h.length]
  exact this
theorem RpL.eraseIdx {S : Sx} {vs : List V} {ds : List D} (h : RpL K S vs ds) (k : Nat) : RpL K S (vs.eraseIdx k) (ds.eraseIdx k) := by
  rw [List.eraseIdx_eq_take_drop_succ, List.eraseIdx_eq_take_drop_succ]
  exact (h.take k).app (h.drop (k + 1))
theorem ms_append : MtS K rAppend mAppend := fun S H p ws vs ds xs ds' z Q sh hp rw' rv e q => by
  unfold mAppend at e
  split at e
  case h_2 => cases e
  split at e
  case isFalse => cases e
  rename_i hl
  cases e
  obtain ⟨v, rfl, rd⟩ := one_of rv
  exact ⟨p, ws, v, rfl, rfl, hp, by rw [rw'.length]; exact hl, q _ _ (rw'.app (.cons rd .nil)) .non⟩
theorem ms_popAt : MtS K rPopAt mPopAt := fun S H p ws vs ds xs ds' z Q sh hp rw' rv e q => by
  unfold mPopAt at e
  split at e
  case h_2 => cases e
  split at e
  case isFalse => cases e
  rename_i hb
  obtain ⟨k, hk, e⟩ := Option.bind_eq_some_iff.mp e
  obtain ⟨d, hd, e⟩ := Option.map_eq_some_iff.mp e
  cases e
  obtain ⟨v, rfl, rd⟩ := one_of rv
  cases rd
  obtain ⟨v, hv, rd⟩ := rw'.get hd
  exact ⟨p, ws, _, k, v, rfl, rfl, hp, hb.1, hb.2, by rw [rw'.length]; exact hk, hv, q _ _ (rw'.eraseIdx k) rd⟩
theorem tev_mtS {r : V → List V → Hp → VK → Prop} {g : List D → List D → Option (D × List D)} {fo : E} {fa : EL} (hr : MtS K r g) (h : TEv K (eMtS g fo fa) σ H Q) : tBM K "list" r (TEv K fo) (TAv K fa) σ H Q := by
  obtain ⟨S, F, ρ, dk, d, ρ', dk', R, e, q⟩ := h
  unfold eMtS at e
  obtain ⟨⟨x, ρ1, k1⟩, ea, e⟩ := Option.bind_eq_some_iff.mp e
  split at e
  case h_2 => cases e
  rename_i n hn
  dsimp only at hn
  subst hn
  split at e
  case h_2 => cases e
  rename_i ds0 h0
  obtain ⟨⟨ys, ρ2, k2⟩, eb, e⟩ := Option.bind_eq_some_iff.mp e
  split at e
  case h_2 => cases e
  rename_i ds hd
  obtain ⟨⟨z, ds'⟩, ez, e⟩ := Option.map_eq_some_iff.mp e
  cases e
  refine ⟨S, F, ρ, dk, _, _, _, R, ea, fun v H1 S1 l1 R1 rv => ?_⟩
  cases rv with
  | @loc a _ hl =>
    obtain ⟨⟨ws0, g0, _⟩, _⟩ := R1.look hl h0
    refine ⟨.inl ⟨rfl, _, .inl (.inl g0)⟩, S1, F, ρ1, k1, ys, _, _, R1, eb, fun vs H2 S2 l2 R2 rvs => ?_⟩
    obtain ⟨⟨ws, g1, g2⟩, _⟩ := R2.look (l2.l _ _ hl) hd
    exact hr S2 H2 a ws vs ds ys ds' z Q R2.sh g1 g2 rvs ez fun v ws' r1 r2 => q v _ S2 (l1.trans l2) (R2.poke (l2.l _ _ hl) ⟨ws', upd_same, r1⟩) r2
end
section
variable {X : Cx} {o e : Expr} {es : List Expr} {fo : E} {fa : EL} {name : Str} {id : String} {apos cpos : Pos} {r : V → List V → Hp → VK → Prop} {g : List D → List D → Option (D × List D)}
theorem d_mtS (hr : MtS X.K r g) (slot : Slot "list" name id) (hty : typeOf (.builtin id) = pure (.type "method_descriptor")) (hm : MtR X id r) (ho : PE X o (TEv X.K fo)) (ha : PA X (e :: es) (TAv X.K fa)) (hbase : attributeBase o name X.env (eval o X.env) = eval o X.env := by kernel_rfl!)
    (hfew : ((backTo cpos (starEach (e :: es) X.env)).all (fun x => !x.1) && (backToKw cpos (keywordEach [] X.env)).all (fun x => x.1.isSome) && decide ((e :: es).length + ([] : List Keyword).length + (if ([] : List Keyword).isEmpty then 0 else 1) < 30)) = true := by kernel_rfl!)
    (hline : (apos.endLine == cpos.line) = true := by kernel_rfl!) (hs : starEach (e :: es) X.env = (false, eval e X.env) :: starEach es X.env := by kernel_rfl!) (hpl : (backTo cpos (starEach es X.env)).any (·.1) = false := by kernel_rfl!) :
    PE X (.Call (.Attribute o name apos) (e :: es) [] cpos) (TEv X.K (eMtS g fo fa)) := (pe_bm PySem.F.plainAttrs_list slot hty hm ho ha hbase hfew hline hs hpl).imp fun _ _ _ h => tev_mtS hr h
end
structure Cm (P : Program) (w : World) (K : PySem.W.Frag) (mg : Str → Option Value) (base : Heap) (k : Nat) (nm m : Str) (n : Nat) (F : Fn) : Prop where
  ex : ∃ (C f : Addr) (fd : FuncData) (ps : List Str), ClsN K nm C ∧ Cls K C ∧ Meth K C m f ∧ FnG P w K mg base CX0 k f fd ps (spS K n F) ∧ Binds K fd ps []
structure CmX (P : Program) (w : World) (K : PySem.W.Frag) (mg : Str → Option Value) (base : Heap) (k : Nat) (nm m : Str) (n : Nat) (F : FnX) : Prop where
  ex : ∃ (C f : Addr) (fd : FuncData) (ps : List Str), ClsN K nm C ∧ Cls K C ∧ Meth K C m f ∧ FnG P w K mg base (L2.CX P w) k f fd ps (spX K n F) ∧ Binds K fd ps []
theorem Cm.up {P : Program} {w : World} {K : PySem.W.Frag} {mg : Str → Option Value} {base : Heap} {j k : Nat} {nm m : Str} {n : Nat} {F : Fn} (c : Cm P w K mg base j nm m n F) (h : j ≤ k) : Cm P w K mg base k nm m n F := by
  obtain ⟨C, f, fd, ps, a, b, c, d, e⟩ := c.ex
  exact ⟨C, f, fd, ps, a, b, c, d.up h, e⟩
theorem CmX.up {P : Program} {w : World} {K : PySem.W.Frag} {mg : Str → Option Value} {base : Heap} {j k : Nat} {nm m : Str} {n : Nat} {F : FnX} (c : CmX P w K mg base j nm m n F) (h : j ≤ k) : CmX P w K mg base k nm m n F := by
  obtain ⟨C, f, fd, ps, a, b, c, d, e⟩ := c.ex
  exact ⟨C, f, fd, ps, a, b, c, d.up h, e⟩
end WS
namespace WS
open PySem PySem.Spec PyProof.Rows L2
end WS
namespace WS
open PySem PySem.Spec PyProof.Rows L2
end WS
namespace WS
open PySem PySem.Spec PyProof.Rows L2
/-- o[j] = v, a list of the store -/
def setLD (st : List D) (o j v : D) : Option (Nat × D) := match o, j with
  | .loc n, .int j => match st[n]? with
    | some (.lst ds) => (ixN ds.length j).map fun m => (n, .lst (ds.set m v))
    | _ => none
  | _, _ => none
/-- o[k] = v, a dict of the store -/
def setDD (st : List D) (o j v : D) : Option (Nat × D) := match o with
  | .loc n => match st[n]? with
    | some (.dct ks vs) => (keyD j).bind fun q => if ks.length < sizeLine then some (n, .dct (putD ks vs q v).1 (putD ks vs q v).2) else none
    | _ => none
  | _ => none
def sSetLS (fo fk fv : E) : SS := fun ρ k => (fv ρ k).bind fun v => (fo v.2.1 v.2.2).bind fun o => (fk o.2.1 o.2.2).bind fun i => (setLD (stOf i.2.2) o.1 i.1 v.1).map fun z => (.nx, i.2.1, poke z.1 z.2 i.2.2)
def sSetDS (fo fk fv : E) : SS := fun ρ k => (fv ρ k).bind fun v => (fo v.2.1 v.2.2).bind fun o => (fk o.2.1 o.2.2).bind fun i => (setDD (stOf i.2.2) o.1 i.1 v.1).map fun z => (.nx, i.2.1, poke z.1 z.2 i.2.2)
section
variable {K : PySem.W.Frag} {σ : L2.St} {H : Hp} {D' : Ends} {W : WX}
theorem tsv_setDS {fo fk fv : E} (h : TSv K W (sSetDS fo fk fv) D' σ H) : sDPut (TEv K fo) (TEv K fk) (TEv K fv) D' σ H := by
  obtain ⟨S, F, ρ, dk, o, ρ', dk', R, e, q⟩ := h
  unfold sSetDS at e
  obtain ⟨⟨v, ρ1, k1⟩, e1, e⟩ := Option.bind_eq_some_iff.mp e
  obtain ⟨⟨x, ρ2, k2⟩, e2, e⟩ := Option.bind_eq_some_iff.mp e
  obtain ⟨⟨y, ρ3, k3⟩, e3, e⟩ := Option.bind_eq_some_iff.mp e
  obtain ⟨⟨n, d⟩, e4, e⟩ := Option.map_eq_some_iff.mp e
  cases e
  refine ⟨S, F, ρ, dk, v, ρ1, k1, R, e1, fun vv H1 S1 l1 R1 rv => ⟨S1, F, ρ1, k1, x, ρ2, k2, R1, e2, fun vo H2 S2 l2 R2 ro => ⟨S2, F, ρ2, k2, y, ρ3, k3, R2, e3, fun vi H3 S3 l3 R3 ri => ?_⟩⟩⟩
  unfold setDD at e4
  split at e4
  case h_2 => cases e4
  rename_i m hx
  dsimp only at hx
  subst hx
  split at e4
  case h_2 => cases e4
  rename_i ks vs hd
  obtain ⟨qk, hq, e4⟩ := Option.bind_eq_some_iff.mp e4
  split at e4
  case isFalse => cases e4
  rename_i hlt
  cases e4
  cases ro with
  | @loc a _ hl =>
    obtain ⟨⟨kvs, g1, g2, g3⟩, _⟩ := R3.look (l3.l _ _ hl) hd
    subst g2
    obtain ⟨p1, p2⟩ := put_ok (z := qk) (rv.mono (l2.trans l3)) g3
    refine ⟨a, _, rfl, .inl ⟨kvs, qk, g1, key_of_rp ri hq, by rw [List.length_map] at hlt; exact hlt, rfl⟩, q _ _ S3 ((l1.trans l2).trans l3) (R3.poke (l3.l _ _ hl) ⟨_, upd_same, p1, p2⟩)⟩
end
section
variable {X : Cx} {o i v : Expr} {fo fk fv : E} {f : Str} {nms : List Str} {pos pos' : Pos} {W : WX}
theorem s_setDS (hu : X.A.units + 1 < cLine) (ho : PE X o (TEv X.K fo)) (hk : PE X i (TEv X.K fk)) (hv : PE X v (TEv X.K fv)) (hs : swapsWith v (some (.Subscript o i pos')) pos.line X.env = pure false := by kernel_rfl!) :
    PS X (.Assign [.Subscript o i pos'] v pos) (TSv X.K W (sSetDS fo fk fv)) := (ps_dput hu ho hk hv hs).imp fun _ _ _ h => tsv_setDS h
end
end WS
namespace WS
open PySem PySem.Spec PyProof.Rows L2
def isLs : D → Option (List D)
  | .lst ds => some ds
  | _ => none
/-- the dict that stands, of the store or not -/
def dctOf : D → Option (List Key × List D)
  | .dct ks vs => some (ks, vs)
  | _ => none
section
variable {K : PySem.W.Frag} {σ : L2.St} {H : Hp} {Q : VK} {S : Sx} {F : Hp} {ρ : List Sl} {dk : Dk} {W : WX} {D' : Ends}
theorem drf0 {st : List D} : drf 0 st = id := by funext d; unfold drf; rfl
theorem Rep.dictAt (R : Rep K σ H S F ρ dk) {v : V} {d : D} {kd : List Key × List D} (r : Rp K S v d) (e : dctOf (WS.drf 1 (stOf dk) d) = some kd) : ∃ a kvs, v = .ref a ∧ Rd H a (.dK kvs) ∧ kvs.map (·.1) = kd.1 ∧ RpL K S (kvs.map (·.2)) kd.2 := by
  by_cases c : ∃ i, d = .loc i
  · obtain ⟨i, rfl⟩ := c
    cases r with
    | loc hl =>
      obtain ⟨d, hd⟩ := R.loc_st hl
      obtain ⟨w1, _⟩ := R.look hl hd
      unfold WS.drf at e
      rw [hd] at e
      cases d with
      | dct ks vs =>
        have e' : dctOf (.dct ks (vs.map (WS.drf 0 (stOf dk)))) = some kd := e
        rw [drf0, List.map_id] at e'
        cases e'
        obtain ⟨kvs, e1, k, r1⟩ := w1
        exact ⟨_, kvs, rfl, .inl e1, k, r1⟩
      | _ => cases e
  · have ed : WS.drf 1 (stOf dk) d = d := by cases d <;> first | rfl | exact absurd ⟨_, rfl⟩ c
    rw [ed] at e
    cases r with
    | dct h a b q => cases e; subst a b; exact ⟨_, _, rfl, R.sh.rd h, rfl, q⟩
    | _ => cases e
end
theorem op_get {K : PySem.W.Frag} : OpD K (fun x y H2 Q => ∃ a v, x = .ref a ∧ DGet H2 a y (some v) ∧ Q v H2) gGet := fun S H x y d e z Q sh rx ry eg q => by
  unfold gGet at eg
  split at eg
  case h_2 => cases eg
  cases hk : keyD e with
  | none => rw [hk] at eg; cases eg
  | some z =>
    rw [hk] at eg
    cases rx with
    | dct h h1 h2 r =>
      subst h1 h2
      obtain ⟨v, hv, rv⟩ := lk_some r eg
      exact ⟨_, v, rfl, .inl ⟨_, z, sh.rd h, key_of_rp ry hk, hv.symm⟩, q _ S H (Grow.refl sh) rv⟩
/-- o.get(k, d) -/
def eGet2S (fo fk fd : E) : E := fun ρ k => (fo ρ k).bind fun x => (dctOf (drf 1 (stOf x.2.2) x.1)).bind fun _ => (fk x.2.1 x.2.2).bind fun y => (fd y.2.1 y.2.2).bind fun z => (dctOf (drf 1 (stOf z.2.2) x.1)).bind fun kd => (keyD y.1).map fun q => ((lkD kd.1 kd.2 q).getD z.1, z.2.1, z.2.2)
/-- o.pop(k), a dict of the store -/
def dropD : List Key → List D → Key → List Key × List D
  | k :: ks, v :: vs, q => if k = q then dropD ks vs q else (k :: (dropD ks vs q).1, v :: (dropD ks vs q).2)
  | _, _, _ => ([], [])
def eDPopS (fo fk : E) : E := fun ρ k => (fo ρ k).bind fun x => match x.1 with
  | .loc n => match (stOf x.2.2)[n]? with
    | some (.dct _ _) => (fk x.2.1 x.2.2).bind fun y => match (stOf y.2.2)[n]? with
      | some (.dct ks vs) => (keyD y.1).bind fun q => (lkD ks vs q).map fun d => (d, y.2.1, poke n (.dct (dropD ks vs q).1 (dropD ks vs q).2) y.2.2)
      | _ => none
    | _ => none
  | _ => none
/-- {..}, of the store -/
def eDispN (ks : List Key) (fs : EL) : E := fun ρ k => (fs ρ k).bind fun x => if x.1.length = ks.length then (born (.dct ks x.1) x.2.2).map fun z => (z.1, x.2.1, z.2) else none
/-- dict(pairs), of the store -/
def eDictPN (fa : E) : E := fun ρ k => (fa ρ k).bind fun x => (isLs x.1).bind fun ps => (pairsD ps).bind fun p => if p.1.Nodup then (born (.dct p.1 p.2) x.2.2).map fun z => (z.1, x.2.1, z.2) else none
/-- sorted(d), d a dict of ints -/
def eSortDK (fo : E) : E := fun ρ k => (fo ρ k).bind fun x => (dctOf (drf 1 (stOf x.2.2) x.1)).bind fun kd => (intKeys kd.1).bind fun is => if is.length ≤ 4000 then some (.lst ((isort is).map .int), x.2.1, x.2.2) else none
/-- a, b = e -/
def sUnp (gs : List Tg) (fe : E) : SS := fun ρ k => (fe ρ k).bind fun x => (seqOf (drf 1 (stOf x.2.2) x.1)).bind fun ds => (gAllT gs ds x.2.1).map fun ρ' => (.nx, ρ', x.2.2)
end WS
namespace WS
open PySem PySem.Spec PyProof.Rows L2
section
variable {K : PySem.W.Frag} {σ : L2.St} {H : Hp} {Q : VK} {S : Sx} {F : Hp} {ρ : List Sl} {dk : Dk} {W : WX} {D' : Ends}
theorem tev_get2S {fo fk fd : E} (h : TEv K (eGet2S fo fk fd) σ H Q) : tDGet2 (TEv K fo) (TEv K fk) (TEv K fd) σ H Q := by
  obtain ⟨S, F, ρ, dk, d, ρ', dk', R, e, q⟩ := h
  unfold eGet2S at e
  obtain ⟨⟨x, ρ1, k1⟩, e1, e⟩ := Option.bind_eq_some_iff.mp e
  obtain ⟨kd0, e0, e⟩ := Option.bind_eq_some_iff.mp e
  obtain ⟨⟨y, ρ2, k2⟩, e2, e⟩ := Option.bind_eq_some_iff.mp e
  obtain ⟨⟨z, ρ3, k3⟩, e3, e⟩ := Option.bind_eq_some_iff.mp e
  obtain ⟨kd, e4, e⟩ := Option.bind_eq_some_iff.mp e
  obtain ⟨qk, e5, e⟩ := Option.map_eq_some_iff.mp e
  cases e
  refine ⟨S, F, ρ, dk, x, ρ1, k1, R, e1, fun vx H1 S1 l1 R1 rx => ?_⟩
  obtain ⟨a, kvs0, rfl, h0, _⟩ := R1.dictAt rx e0
  refine ⟨a, rfl, .inl ⟨kvs0, h0⟩, S1, F, ρ1, k1, y, ρ2, k2, R1, e2, fun vy H2 S2 l2 R2 ry => ⟨S2, F, ρ2, k2, z, _, _, R2, e3, fun vz H3 S3 l3 R3 rz => ?_⟩⟩
  obtain ⟨a', kvs, ha, h1, h2, h3⟩ := R3.dictAt (rx.mono (l2.trans l3)) e4
  cases ha
  refine ⟨L2.valV kvs qk, .inl ⟨kvs, qk, h1, key_of_rp (ry.mono l3) e5, rfl⟩, ?_⟩
  obtain ⟨ks, ds⟩ := kd
  dsimp only at h2 h3 q
  subst h2
  cases hl : lkD (kvs.map (·.1)) ds qk with
  | none =>
    rw [lk_none h3 hl]
    rw [hl] at q
    exact q vz H3 S3 ((l1.trans l2).trans l3) R3 rz
  | some d' =>
    obtain ⟨v, hv, rv⟩ := lk_some h3 hl
    rw [hv]
    rw [hl] at q
    exact q v H3 S3 ((l1.trans l2).trans l3) R3 rv
theorem drop_ok {q : Key} : ∀ {kvs : List (Key × V)} {ds : List D}, RpL K S (kvs.map (·.2)) ds → (dropK kvs q).map (·.1) = (dropD (kvs.map (·.1)) ds q).1 ∧ RpL K S ((dropK kvs q).map (·.2)) (dropD (kvs.map (·.1)) ds q).2
  | [], _, .nil => ⟨rfl, .nil⟩
  | (k, v) :: r, _, .cons h t => by
    obtain ⟨e1, e2⟩ := drop_ok (q := q) t
    unfold dropK at e1 e2 ⊢
    simp only [List.map_cons]
    unfold dropD
    by_cases c : k = q
    · rw [List.filter_cons_of_neg (by simp [c]), if_pos c]
      exact ⟨e1, e2⟩
    · rw [List.filter_cons_of_pos (by simp [c]), if_neg c]
      exact ⟨by rw [List.map_cons, e1], .cons h e2⟩
theorem tev_dpopS {fo fk : E} (h : TEv K (eDPopS fo fk) σ H Q) : tDPop1 (TEv K fo) (TEv K fk) σ H Q := by
  obtain ⟨S, F, ρ, dk, d, ρ', dk', R, e, q⟩ := h
  unfold eDPopS at e
  obtain ⟨⟨x, ρ1, k1⟩, e1, e⟩ := Option.bind_eq_some_iff.mp e
  split at e
  case h_2 => cases e
  rename_i n hn
  dsimp only at hn
  subst hn
  split at e
  case h_2 => cases e
  rename_i ks0 vs0 h0
  obtain ⟨⟨y, ρ2, k2⟩, e2, e⟩ := Option.bind_eq_some_iff.mp e
  split at e
  case h_2 => cases e
  rename_i ks vs hd
  obtain ⟨qk, e3, e⟩ := Option.bind_eq_some_iff.mp e
  obtain ⟨d', e4, e⟩ := Option.map_eq_some_iff.mp e
  cases e
  refine ⟨S, F, ρ, dk, _, ρ1, k1, R, e1, fun vx H1 S1 l1 R1 rx => ?_⟩
  cases rx with
  | @loc a _ hl =>
    obtain ⟨⟨kvs0, g0, _⟩, _⟩ := R1.look hl h0
    refine ⟨a, rfl, .inl ⟨kvs0, .inl g0⟩, S1, F, ρ1, k1, y, _, k2, R1, e2, fun vy H2 S2 l2 R2 ry => ?_⟩
    obtain ⟨⟨kvs, g1, g2, g3⟩, _⟩ := R2.look (l2.l _ _ hl) hd
    subst g2
    obtain ⟨v, hv, rv⟩ := lk_some g3 e4
    obtain ⟨p1, p2⟩ := drop_ok (q := qk) g3
    exact ⟨kvs, qk, v, g1, key_of_rp ry e3, hv, q v _ S2 (l1.trans l2) (R2.poke (l2.l _ _ hl) ⟨_, upd_same, p1, p2⟩) rv⟩
theorem tev_dictPN {X : Cx} {fa : E} (h : TEv X.K (eDictPN fa) σ H Q) : tCB (fun xs H Q => ∃ (a : Addr) (ps : List Addr) (kvs : List (Key × V)), xs = [V.ref a] ∧ SqL X.K H a (ps.map V.ref) ∧ Paired (fun p kv => SqT X.K H p [kV kv.1, kv.2]) ps kvs ∧
    ∀ p, H p = none → Q (.ref p) (upd H p (.dK (mergeK [] kvs)))) (tCons (TEv X.K fa) tNil) σ H Q := by
  obtain ⟨S, F, ρ, dk, d, ρ', dk', R, e, q⟩ := h
  unfold eDictPN at e
  obtain ⟨⟨x, ρ1, k1⟩, e1, e⟩ := Option.bind_eq_some_iff.mp e
  obtain ⟨ps, el, e⟩ := Option.bind_eq_some_iff.mp e
  obtain ⟨p, ep, e⟩ := Option.bind_eq_some_iff.mp e
  split at e
  case isFalse => cases e
  rename_i hn
  obtain ⟨⟨z, k2⟩, ez, e⟩ := Option.map_eq_some_iff.mp e
  cases e
  refine ⟨S, F, ρ, dk, x, _, _, R, e1, fun v H1 S1 l1 R1 rv => ?_⟩
  have hx : x = .lst ps := by cases x <;> first | (cases el; rfl) | cases el
  subst hx
  cases rv with
  | lst h r =>
    obtain ⟨as, kvs, rfl, hp, h1, h2⟩ := pairs_rp R1.sh r ep
    refine ⟨_, as, kvs, rfl, .inl (.inl (R1.sh _ _ h)), hp, fun A hA => ?_⟩
    rw [mergeK_new (kvs := []) (by rw [List.nil_append, h1]; exact hn), List.nil_append]
    obtain ⟨S2, l2, R2, rz⟩ := R1.born (o := .dK kvs) hA ez fun S' l => ⟨kvs, upd_same, h1, h2.mono l⟩
    exact q _ _ S2 (l1.trans l2) R2 rz
end
end WS
namespace WS
open PySem PySem.Spec PyProof.Rows L2
def eNewD0 : E := fun ρ k => (born (.dct [] []) k).map fun z => (z.1, ρ, z.2)
section
variable {X : Cx} {o e e2 kx : Expr} {fo fk fd fa fe : E} {fs : EL} {apos cpos pos p : Pos} {W : WX} {keys : List (Option Expr)} {vals : List Expr} {ks : List Key} {es : List Expr}
theorem d_getS {n : Nat} (hu : X.A.units + 1 < cLine) (ha : PE X o (TEv X.K fo)) (hb : PE X e (TEv X.K fk)) (hs : NoSl e) : PE X (.Subscript o e pos) (TEv X.K (eOpS n gGet fo fk)) :=
  (pe_dget hu ha hb hs).imp fun σ H Q h => tev_opS (r := fun x y H2 Q => ∃ a v, x = .ref a ∧ DGet H2 a y (some v) ∧ Q v H2) op_get h
theorem d_get2S (hu : X.A.units + 1 < cLine) (ho : PE X o (TEv X.K fo)) (hk : PE X e (TEv X.K fk)) (hd : PE X e2 (TEv X.K fd)) (m : M2 X o "get" apos e e2 cpos := by exact ⟨by kernel_rfl!, by kernel_rfl!, by kernel_rfl!, by kernel_rfl!⟩) :
    PE X (.Call (.Attribute o "get" apos) [e, e2] [] cpos) (TEv X.K (eGet2S fo fk fd)) := (pe_dget2 hu ho hk hd m).imp fun _ _ _ h => tev_get2S h
theorem d_dpopS (ho : PE X o (TEv X.K fo)) (hk : PE X e (TEv X.K fk)) (m : M1 X o "pop" apos e cpos := by exact ⟨by kernel_rfl!, by kernel_rfl!, by kernel_rfl!, by kernel_rfl!⟩) :
    PE X (.Call (.Attribute o "pop" apos) [e] [] cpos) (TEv X.K (eDPopS fo fk)) := (pe_dpop1 ho hk m).imp fun _ _ _ h => tev_dpopS h
theorem d_dictPN (hc : X.calm = true) (hg : Gl X "dict") (hm : X.mg "dict" = none) (ho : PE X o (TEv X.K fa))
    (s1 : starEach [o] X.env = (false, eval o X.env) :: starEach [] X.env := by kernel_rfl!) (l1 : (backTo pos (starEach [] X.env)).any (·.1) = false := by kernel_rfl!) : PE X (.Call (.Name "dict" p) [o] [] pos) (TEv X.K (eDictPN fa)) :=
  (pe_callTy (call_dictP hc) hg hm (by decide +kernel) (pa_cons ho pa_nil s1) (by decide) (by decide) s1 l1).imp fun σ H Q h => tev_dictPN h
theorem d_newD0 : PE X (.Dict [] [] pos) (TEv X.K eNewD0) := pe_dnewK.imp fun σ H Q h => by
  obtain ⟨S, F, ρ, dk, d, ρ', dk', R, e, q⟩ := h
  unfold eNewD0 at e
  obtain ⟨⟨z, k2⟩, ez, e⟩ := Option.map_eq_some_iff.mp e
  cases e
  intro p hp
  obtain ⟨S2, l2, R2, rz⟩ := R.born (o := .dK []) hp ez fun S' l => ⟨[], upd_same, rfl, .nil⟩
  exact q _ _ S2 l2 R2 rz
end
end WS
namespace WS
open PySem PySem.Spec PyProof.Rows L2
def lcOf : D → Option Nat
  | .loc n => some n
  | _ => none
def lsAt (st : List D) (n : Nat) : Option (List D) := match st[n]? with
  | some (.lst ds) => some ds
  | _ => none
def dcAt (st : List D) (n : Nat) : Option (List Key × List D) := match st[n]? with
  | some (.dct ks vs) => some (ks, vs)
  | _ => none
section
variable {ρ : List Sl} {k : Dk} {n i : Nat} {a b fo fk fv fd fe elt tt ek ev : E} {fa fs : EL} {g : D → D → Option D} {gu : D → Option D} {ga : List D → Option D} {nms : List Str} {f nm m : Str} {src : SrcG} {vs : List Nat} {tg : Tg} {body : SS} {nx : Nx} {F : Fn} {FX : FnX}
theorem stOf_some {c : List Int} {t s : Int} {st : List D} : stOf (some (c, t, s, st)) = st := nrfl rfl
theorem born_some {d : D} {c : List Int} {t s : Int} {st : List D} : born d (some (c, t, s, st)) = some (.loc st.length, some (c, t, s, st ++ [d])) := nrfl rfl
theorem poke_some {d : D} {c : List Int} {t s : Int} {st : List D} : poke n d (some (c, t, s, st)) = some (c, t, s, st.set n d) := nrfl rfl
theorem ap_newL : eNewL fa ρ k = (fa ρ k).bnd fun x => if x.1.length ≤ sizeLine then (born (.lst x.1) x.2.2).mpd fun y => (y.1, x.2.1, y.2) else none := nrfl rfl
theorem ap_listN : eListN a ρ k = (a ρ k).bnd fun x => (seqOf (drf 1 (stOf x.2.2) x.1)).bnd fun ds => (born (.lst ds) x.2.2).mpd fun y => (y.1, x.2.1, y.2) := nrfl rfl
theorem ap_opS : eOpS n g a b ρ k = (a ρ k).bnd fun x => (b x.2.1 x.2.2).bnd fun y => (g (drf n (stOf y.2.2) x.1) (drf n (stOf y.2.2) y.1)).bnd fun z => if nl z = true then some (z, y.2.1, y.2.2) else none := nrfl rfl
theorem ap_unS : eUnS n gu a ρ k = (a ρ k).bnd fun x => (gu (drf n (stOf x.2.2) x.1)).bnd fun z => if nl z = true then some (z, x.2.1, x.2.2) else none := nrfl rfl
theorem ap_appS : eAppS n ga fa ρ k = (fa ρ k).bnd fun x => (ga (x.1.map (drf n (stOf x.2.2)))).bnd fun z => if nl z = true then some (z, x.2.1, x.2.2) else none := nrfl rfl
theorem ap_setLS : sSetLS fo fk fv ρ k = (fv ρ k).bnd fun v => (fo v.2.1 v.2.2).bnd fun o => (fk o.2.1 o.2.2).bnd fun i => (setLD (stOf i.2.2) o.1 i.1 v.1).mpd fun z => (.nx, i.2.1, poke z.1 z.2 i.2.2) := nrfl rfl
theorem ap_setDS : sSetDS fo fk fv ρ k = (fv ρ k).bnd fun v => (fo v.2.1 v.2.2).bnd fun o => (fk o.2.1 o.2.2).bnd fun i => (setDD (stOf i.2.2) o.1 i.1 v.1).mpd fun z => (.nx, i.2.1, poke z.1 z.2 i.2.2) := nrfl rfl
theorem ap_get2S : eGet2S fo fk fd ρ k = (fo ρ k).bnd fun x => (dctOf (drf 1 (stOf x.2.2) x.1)).bnd fun _ => (fk x.2.1 x.2.2).bnd fun y => (fd y.2.1 y.2.2).bnd fun z => (dctOf (drf 1 (stOf z.2.2) x.1)).bnd fun kd => (keyD y.1).mpd fun q => ((lkD kd.1 kd.2 q).getD z.1, z.2.1, z.2.2) := nrfl rfl
theorem ap_dispN {ks : List Key} : eDispN ks fs ρ k = (fs ρ k).bnd fun x => if x.1.length = ks.length then (born (.dct ks x.1) x.2.2).mpd fun z => (z.1, x.2.1, z.2) else none := nrfl rfl
theorem ap_newD0 : eNewD0 ρ k = (born (.dct [] []) k).mpd fun z => (z.1, ρ, z.2) := nrfl rfl
theorem ap_dictPN : eDictPN a ρ k = (a ρ k).bnd fun x => (isLs x.1).bnd fun ps => (pairsD ps).bnd fun p => if p.1.Nodup then (born (.dct p.1 p.2) x.2.2).mpd fun z => (z.1, x.2.1, z.2) else none := nrfl rfl
theorem ap_sortDK : eSortDK fo ρ k = (fo ρ k).bnd fun x => (dctOf (drf 1 (stOf x.2.2) x.1)).bnd fun kd => (intKeys kd.1).bnd fun is => if is.length ≤ 4000 then some (.lst ((isort is).map .int), x.2.1, x.2.2) else none := nrfl rfl
theorem ap_unp {gs : List Tg} : sUnp gs fe ρ k = (fe ρ k).bnd fun x => (seqOf (drf 1 (stOf x.2.2) x.1)).bnd fun ds => (gAllT gs ds x.2.1).mpd fun ρ' => (.nx, ρ', x.2.2) := nrfl rfl
theorem ap_mtS {gm : List D → List D → Option (D × List D)} : eMtS gm fo fa ρ k = (fo ρ k).bnd fun x => (lcOf x.1).bnd fun n => (lsAt (stOf x.2.2) n).bnd fun _ => (fa x.2.1 x.2.2).bnd fun y => (lsAt (stOf y.2.2) n).bnd fun ds => (gm ds y.1).mpd fun z => (z.1, y.2.1, poke n (.lst z.2) y.2.2) := by
  unfold eMtS Option.bnd Option.mpd
  congr 1; funext x
  obtain ⟨d, ρ1, k1⟩ := x
  cases d <;> first | rfl | skip
  rename_i n
  show (match (stOf k1)[n]? with | some (.lst _) => _ | _ => _) = (lsAt (stOf k1) n).bind _
  unfold lsAt
  cases (stOf k1)[n]? with
  | none => rfl
  | some d =>
    cases d <;> first | rfl | skip
    show (fa ρ1 k1).bind _ = (fa ρ1 k1).bind _
    congr 1; funext y
    obtain ⟨ys, ρ2, k2⟩ := y
    show (match (stOf k2)[n]? with | some (.lst ds) => _ | _ => _) = (match (stOf k2)[n]? with | some (.lst ds) => some ds | _ => none).bind _
    cases (stOf k2)[n]? with
    | none => rfl
    | some d => cases d <;> rfl
theorem ap_dpopS : eDPopS fo fk ρ k = (fo ρ k).bnd fun x => (lcOf x.1).bnd fun n => (dcAt (stOf x.2.2) n).bnd fun _ => (fk x.2.1 x.2.2).bnd fun y => (dcAt (stOf y.2.2) n).bnd fun kd => (keyD y.1).bnd fun q => (lkD kd.1 kd.2 q).mpd fun d => (d, y.2.1, poke n (.dct (dropD kd.1 kd.2 q).1 (dropD kd.1 kd.2 q).2) y.2.2) := by
  unfold eDPopS Option.bnd Option.mpd
  congr 1; funext x
  obtain ⟨d, ρ1, k1⟩ := x
  cases d <;> first | rfl | skip
  rename_i n
  show (match (stOf k1)[n]? with | some (.dct _ _) => _ | _ => _) = (dcAt (stOf k1) n).bind _
  unfold dcAt
  cases (stOf k1)[n]? with
  | none => rfl
  | some d =>
    cases d <;> first | rfl | skip
    show (fk ρ1 k1).bind _ = (fk ρ1 k1).bind _
    congr 1; funext y
    obtain ⟨ys, ρ2, k2⟩ := y
    show (match (stOf k2)[n]? with | some (.dct ks vs) => _ | _ => _) = (match (stOf k2)[n]? with | some (.dct ks vs) => some (ks, vs) | _ => none).bind _
    cases (stOf k2)[n]? with
    | none => rfl
    | some d => cases d <;> rfl
theorem lc_loc : lcOf (.loc n) = some n := nrfl rfl
theorem lsAt_of {st : List D} {ds : List D} (h : st[n]? = some (.lst ds)) : lsAt st n = some ds := by unfold lsAt; rw [h]
theorem dcAt_of {st : List D} {ks : List Key} {ds : List D} (h : st[n]? = some (.dct ks ds)) : dcAt st n = some (ks, ds) := by unfold dcAt; rw [h]
theorem drf_ls {st ds : List D} (h : st[i]? = some (.lst ds)) : drf 1 st (.loc i) = .lst ds := by unfold drf; rw [h]; show D.lst (ds.map (drf 0 st)) = _; rw [drf0, List.map_id]
theorem drf_dc {st ds : List D} {ks : List Key} (h : st[i]? = some (.dct ks ds)) : drf 1 st (.loc i) = .dct ks ds := by unfold drf; rw [h]; show D.dct ks (ds.map (drf 0 st)) = _; rw [drf0, List.map_id]
theorem drf_int {st : List D} {j : Int} : drf n st (.int j) = .int j := by cases n <;> rfl
theorem drf_str {st : List D} {x : Str} : drf n st (.str x) = .str x := by cases n <;> rfl
theorem drf_non {st : List D} : drf n st .non = .non := by cases n <;> rfl
theorem drf_bl {st : List D} {c : Bool} : drf n st (.bl c) = .bl c := by cases n <;> rfl
theorem drf_tup {st xs : List D} : drf n st (.tup xs) = .tup xs := by cases n <;> rfl
theorem drf_lst {st xs : List D} : drf n st (.lst xs) = .lst xs := by cases n <;> rfl
theorem drf_dct {st xs : List D} {ks : List Key} : drf n st (.dct ks xs) = .dct ks xs := by cases n <;> rfl
theorem nl_int {j : Int} : (nl (.int j) = true) = True := by simp [nl]
theorem nl_str {x : Str} : (nl (.str x) = true) = True := by simp [nl]
theorem nl_bl {c : Bool} : (nl (.bl c) = true) = True := by simp [nl]
theorem nl_non : (nl .non = true) = True := by simp [nl]
theorem nl_loc : (nl (.loc n) = true) = True := by simp [nl]
theorem dct_of {ks : List Key} {ds : List D} : dctOf (.dct ks ds) = some (ks, ds) := nrfl rfl
theorem seq_l {ds : List D} : seqOf (.lst ds) = some ds := nrfl rfl
theorem seq_t {ds : List D} : seqOf (.tup ds) = some ds := nrfl rfl
theorem isLs_l {ds : List D} : isLs (.lst ds) = some ds := nrfl rfl
theorem setDD_ok {st ds : List D} {ks : List Key} {y v : D} {q : Key} (h : st[n]? = some (.dct ks ds)) (hq : keyD y = some q) (hl : ks.length ≤ 1000000) : setDD st (.loc n) y v = some (n, .dct (putD ks ds q v).1 (putD ks ds q v).2) := by
  unfold setDD
  simp only [h, hq, Option.bind_some]
  rw [if_pos (by rw [sizeLine_eq]; omega)]
end
end WS
namespace WS
open PySem PySem.Spec PyProof.Rows L2 WO
end WS
namespace WS
open PySem PySem.Spec PyProof.Rows L2 WO
end WS
namespace WS
open PySem PySem.Spec PyProof.Rows L2
variable {K : PySem.W.Frag} {mg : Str → Option Value} {nm me qual q2 : Str} {st st2 : Stmt} {fs : List (Str × Nat)}
theorem DfI.xg (d : DfI K mg nm q2 st2 fs) : ∀ C, ClsN K nm C → excG K C = false := fun C h => by
  obtain ⟨C', _, _, _, _, n', x', _⟩ := d.ex
  cases h.eq n'
  exact x'
end WS
namespace WS
open PySem PySem.Spec PyProof.Rows L2
end WS
namespace WS
open PySem PySem.Spec PyProof.Rows L2
section
variable {X : Cx}
/-- two of them -/
def put2 (i j : Nat) : List D → List Sl → Option (List Sl)
  | [a, b], ρ => some ((ρ.set i (.val a)).set j (.val b))
  | _, _ => none
theorem put2_is {i j : Nat} {ds : List D} {ρ ρ' : List Sl} (h : put2 i j ds ρ = some ρ') : ∃ a b, ds = [a, b] ∧ ρ' = (ρ.set i (.val a)).set j (.val b) := by
  unfold put2 at h
  split at h
  · cases h; exact ⟨_, _, rfl, rfl⟩
  · cases h
def sPar2 (i j : Nat) (fs : EL) : SS := fun ρ k => (fs ρ k).bind fun x => (put2 i j x.1 x.2.1).map fun ρ' => (.nx, ρ', x.2.2)
theorem tsv_par2 {W : WX} {σ : L2.St} {H : Hp} {i j : Nat} {fs : EL} {D' : Ends} (h : TSv X.K W (sPar2 i j fs) D' σ H) : tPar i j (TAv X.K fs) D' σ H := by
  obtain ⟨S, F, ρ, dk, o, ρ', dk', R, e, q⟩ := h
  unfold sPar2 at e
  obtain ⟨⟨ds, ρ1, k1⟩, ea, e⟩ := Option.bind_eq_some_iff.mp e
  obtain ⟨ρ2, ep, e⟩ := Option.map_eq_some_iff.mp e
  cases e
  refine ⟨S, F, ρ, dk, ds, ρ1, _, R, ea, fun vs H1 S1 l1 R1 rv => ?_⟩
  obtain ⟨da, db, rfl, rfl⟩ := put2_is ep
  cases rv with
  | cons r1 rv =>
    cases rv with
    | cons r2 rv =>
      cases rv
      exact ⟨_, _, rfl, q _ H1 S1 l1 ((R1.put r1).put r2)⟩
theorem s_par2 {W : WX} {i j : Nat} {x y : Str} {a b : Expr} {fs : EL} {px py pt pos : Pos} {kt k2 pt2} (hc : X.calm = true) (hN : X.N.Nodup) (ha : PA X [a, b] (TAv X.K fs)) (hi : X.N[i]? = some x) (hj : X.N[j]? = some y) (hij : i ≠ j)
    (hx : X.env.scope.names.lookup x = some .local := by kernel_rfl!) (hy : X.env.scope.names.lookup y = some .local := by kernel_rfl!)
    (hw : swappedStores [.Tuple [.Name x px, .Name y py] kt pt] (.Tuple [a, b] k2 pt2) X.env = pure (some [x, y]) := by kernel_rfl!)
    (hs : swapsWithSole [.Tuple [.Name x px, .Name y py] kt pt] (.Tuple [a, b] k2 pt2) pos.line X.env = pure false := by kernel_rfl!) :
    PS X (.Assign [.Tuple [.Name x px, .Name y py] kt pt] (.Tuple [a, b] k2 pt2) pos) (TSv X.K W (sPar2 i j fs)) := (ps_par hc hN hi hj hij hx hy ha hw hs).imp fun _ _ _ h => tsv_par2 h
end
end WS
namespace WS
open PySem PySem.Spec PyProof.Rows L2
end WS
namespace WS
open PySem PySem.Spec PyProof.Rows L2
section
variable {n i f : Nat} {k : Dk} {ρ : List Sl} {g : Tg} {body : SS} {ds : List D} {e : E}
theorem nxL_of (h : (stOf k)[n]? = some (.lst ds)) : nxL n i k = some ds[i]? := by unfold nxL; rw [h]
theorem srcL_of {ρ' : List Sl} {k' : Dk} (h : e ρ k = some (.loc n, ρ', k')) (g : (stOf k')[n]? = some (.lst ds)) : srcL e ρ k = some (nxL n, ds.length + 1, ρ', k') := by
  unfold srcL
  rw [h, Option.bind_some]
  show (match (stOf k')[n]? with | some (.lst ds) => some (nxL n, ds.length + 1, ρ', k') | _ => none) = _
  rw [g]
end
end WS
namespace WS
open PySem PySem.Spec PyProof.Rows L2
section
variable {n : Nat} {k : Dk} {ρ : List Sl} {g : Tg} {ds : List D} {vs : List Nat} {tt elt ek ev : E}
/-- .. over a list of the store, nothing drawn or changed -/
theorem gcompL_map (h : D → D) (hd : (stOf k)[n]? = some (.lst ds)) (H : ∀ d ∈ ds, ∃ ρ1 ρ2 ρ3, g d ρ = some ρ1 ∧ tt ρ1 k = some (.bl true, ρ2, k) ∧ elt ρ2 k = some (h d, ρ3, k) ∧ wipeS ρ3 vs = ρ) :
    ∀ f i, f + i = ds.length + 1 → i ≤ ds.length → gCompGo vs g tt elt (nxL n) f i ρ k = some ((ds.drop i).map h, ρ, k)
  | 0, i, e, hi => by omega
  | f + 1, i, e, hi => by
    have e1 : nxL n i k = some ds[i]? := nxL_of hd
    cases hx : ds[i]? with
    | none =>
      have : i = ds.length := Nat.le_antisymm hi (List.getElem?_eq_none_iff.mp hx)
      subst this
      rw [List.drop_length]
      unfold gCompGo
      rw [e1, hx]; rfl
    | some d =>
      have hlt := (List.getElem?_eq_some_iff.mp hx).1
      obtain ⟨ρ1, ρ2, ρ3, q1, q2, q3, q4⟩ := H d (List.mem_of_getElem? hx)
      have ih := gcompL_map h hd H f (i + 1) (by omega) (by omega)
      have ed : ds.drop i = d :: ds.drop (i + 1) := by
        rw [List.drop_eq_getElem_cons hlt]
        congr 1
        rw [List.getElem?_eq_getElem hlt] at hx
        exact Option.some.inj hx
      rw [ed, List.map_cons]
      unfold gCompGo
      rw [e1, hx]
      show (g d ρ).bind _ = _
      rw [q1, Option.bind_some, q2, Option.bind_some]
      show (elt ρ2 k).bind _ = _
      rw [q3, Option.bind_some]
      show (gCompGo vs g tt elt (nxL n) f (i + 1) (wipeS ρ3 vs) k).map _ = _
      rw [q4, ih]
      rfl
end
end WS
namespace WS
open PySem PySem.Spec PyProof.Rows L2
def lsOfD : D → Option (List D)
  | .lst ds => some ds
  | _ => none
/-- y in d, d a dict of the store; y may be None -/
def gInN (neg : Bool) : D → D → Option D
  | .non, .dct _ _ => some (.bl neg)
  | y, .dct ks ds => (keyD y).map fun z => .bl (neg != (lkD ks ds z).isSome)
  | _, _ => none
def eInS (neg : Bool) (fa fb : E) : E := fun ρ k => (fa ρ k).bind fun y => (fb y.2.1 y.2.2).bind fun x => (gInN neg y.1 (drf 1 (stOf x.2.2) x.1)).map fun z => (z, x.2.1, x.2.2)
section
variable {K : PySem.W.Frag} {σ : L2.St} {H : Hp} {Q : VK} {S : Sx} {F : Hp} {ρ : List Sl} {dk : Dk}
theorem Rep.lists (R : Rep K σ H S F ρ dk) {v : V} {d : D} {ds : List D} (r : Rp K S v d) (e : lsOfD (WS.drf 1 (stOf dk) d) = some ds) : ∃ a xs, v = .ref a ∧ H a = some (.lst xs) ∧ RpL K S xs ds := by
  by_cases c : ∃ i, d = .loc i
  · obtain ⟨i, rfl⟩ := c
    cases r with
    | loc hl =>
      obtain ⟨d, hd⟩ := R.loc_st hl
      obtain ⟨w1, _⟩ := R.look hl hd
      unfold WS.drf at e
      rw [hd] at e
      cases d with
      | lst es =>
        have e' : lsOfD (.lst (es.map (WS.drf 0 (stOf dk)))) = some ds := e
        have : es.map (WS.drf 0 (stOf dk)) = es := by
          have : WS.drf 0 (stOf dk) = id := by funext d; unfold WS.drf; rfl
          rw [this, List.map_id]
        rw [this] at e'
        cases e'
        obtain ⟨xs, e1, r1⟩ := w1
        exact ⟨_, xs, rfl, e1, r1⟩
      | _ => cases e
  · have ed : WS.drf 1 (stOf dk) d = d := by cases d <;> first | rfl | exact absurd ⟨_, rfl⟩ c
    rw [ed] at e
    cases r with
    | lst h q => cases e; exact ⟨_, _, rfl, R.sh _ _ h, q⟩
    | _ => cases e
theorem tev_inS {X : Cx} {neg : Bool} {fa fb : E} (h : TEv X.K (eInS neg fa fb) σ H Q) : TEv X.K fa σ H fun y H1 => TEv X.K fb σ H1 fun x H2 => (∃ a o, x = .ref a ∧ DGet H2 a y o ∧ Q (.bl (neg != o.isSome)) H2) ∨ ∃ a kvs, x = .ref a ∧ y = .non ∧ Rd H2 a (.dK kvs) ∧ Q (.bl neg) H2 := by
  obtain ⟨S, F, ρ, dk, d, ρ', dk', R, e, q⟩ := h
  unfold eInS at e
  obtain ⟨⟨dy, ρ1, k1⟩, e1, e⟩ := Option.bind_eq_some_iff.mp e
  obtain ⟨⟨dx, ρ2, k2⟩, e2, e⟩ := Option.bind_eq_some_iff.mp e
  obtain ⟨z, e3, e⟩ := Option.map_eq_some_iff.mp e
  cases e
  refine ⟨S, F, ρ, dk, dy, ρ1, k1, R, e1, fun y H1 S1 l1 R1 ry => ⟨S1, F, ρ1, k1, dx, _, _, R1, e2, fun x H2 S2 l2 R2 rx => ?_⟩⟩
  -- the dict
  have key : ∀ ks ds, WS.drf 1 (stOf k2) dx = .dct ks ds → ∃ a kvs, x = .ref a ∧ Rd H2 a (.dK kvs) ∧ kvs.map (·.1) = ks ∧ RpL X.K (lentS S2 H2) (kvs.map (·.2)) ds := fun ks ds ed => by
    have := R2.drf 1 rx
    rw [ed] at this
    cases this with
    | dct hh h1 h2 r =>
      subst h1
      exact ⟨_, _, rfl, (R2.lent_sub).rd hh, rfl, by subst h2; exact r⟩
  cases hd : WS.drf 1 (stOf k2) dx with
  | dct ks ds =>
    obtain ⟨a, kvs, rfl, hr, hk, hv⟩ := key ks ds hd
    rw [hd] at e3
    by_cases c : dy = .non
    · subst c
      cases (ry.mono l2)
      have : d = .bl neg := by
        have e3' : some (D.bl neg) = some d := e3
        injection e3' with e3'; exact e3'.symm
      subst this
      exact .inr ⟨a, kvs, rfl, rfl, hr, q _ _ S2 (l1.trans l2) R2 (.bl _)⟩
    · have e3' : (keyD dy).map (fun z => D.bl (neg != (lkD ks ds z).isSome)) = some d := by
        cases dy <;> first | exact e3 | exact absurd rfl c
      obtain ⟨qk, hq, e4⟩ := Option.map_eq_some_iff.mp e3'
      subst e4
      subst hk
      refine .inl ⟨a, _, rfl, .inl ⟨kvs, qk, hr, key_of_rp (ry.mono l2) hq, rfl⟩, ?_⟩
      rw [← lk_is hv]
      exact q _ _ S2 (l1.trans l2) R2 (.bl _)
  | _ =>
    rw [hd] at e3
    cases dy <;> exact nomatch e3
end
section
variable {X : Cx} {a b : Expr} {fa fb : E} {pos : Pos} {lo hi : Option Expr} {fl fh : EO} {p2 : Pos}
theorem q_inS (hu : X.A.units + 1 < cLine) (ha : PE X a (TEv X.K fa)) (hb : PE X b (TEv X.K fb)) (hm : behindInMarks .In b = false := by kernel_rfl!) : PT X (.Compare a [.In] [b] pos) (TTv X.K (eInS false fa fb)) :=
  (pt_cmp (pc_dinN hu ha hb) hm).imp fun σ H Q h => by
    obtain ⟨S, F, ρ, dk, d, ρ', dk', R, e, q⟩ := tev_inS (ttv_val h)
    refine ⟨S, F, ρ, dk, d, ρ', dk', R, e, fun v H1 S1 l1 R1 rv => ?_⟩
    obtain ⟨S2, F2, ρ2, dk2, d2, ρ2', dk2', R2, e2, q2⟩ := q v H1 S1 l1 R1 rv
    refine ⟨S2, F2, ρ2, dk2, d2, ρ2', dk2', R2, e2, fun v2 H2 S2' l2 R2' rv2 => ?_⟩
    rcases q2 v2 H2 S2' l2 R2' rv2 with ⟨p, o, e, g, qq⟩ | z
    · exact .inl ⟨p, o, e, g, by simpa using qq⟩
    · exact .inr z
theorem q_inSN (hu : X.A.units + 1 < cLine) (ha : PE X a (TEv X.K fa)) (hb : PE X b (TEv X.K fb)) (hm : behindInMarks .NotIn b = false := by kernel_rfl!) : PT X (.Compare a [.NotIn] [b] pos) (TTv X.K (eInS true fa fb)) :=
  (pt_cmp (pc_dnotinN hu ha hb) hm).imp fun σ H Q h => by
    obtain ⟨S, F, ρ, dk, d, ρ', dk', R, e, q⟩ := tev_inS (ttv_val h)
    refine ⟨S, F, ρ, dk, d, ρ', dk', R, e, fun v H1 S1 l1 R1 rv => ?_⟩
    obtain ⟨S2, F2, ρ2, dk2, d2, ρ2', dk2', R2, e2, q2⟩ := q v H1 S1 l1 R1 rv
    refine ⟨S2, F2, ρ2, dk2, d2, ρ2', dk2', R2, e2, fun v2 H2 S2' l2 R2' rv2 => ?_⟩
    rcases q2 v2 H2 S2' l2 R2' rv2 with ⟨p, o, e, g, qq⟩ | z
    · exact .inl ⟨p, o, e, g, by simpa using qq⟩
    · exact .inr z
end
end WS
namespace WS
open PySem PySem.Spec PyProof.Rows L2
def sWhileGo (c : E) (body : SS) : Nat → SS
  | 0 => fun _ _ => none
  | f + 1 => fun ρ k => (c ρ k).bind fun x => match x.1 with
    | .bl true => (body x.2.1 x.2.2).bind fun y => match y.1 with
      | .nx => sWhileGo c body f y.2.1 y.2.2
      | .ct => sWhileGo c body f y.2.1 y.2.2
      | .bk => some (.nx, y.2.1, y.2.2)
      | .rt d => some (.rt d, y.2.1, y.2.2)
      | .ex C ns ds => some (.ex C ns ds, y.2.1, y.2.2)
    | .bl false => some (.nx, x.2.1, x.2.2)
    | _ => none
def sWhile (n : Nat) (c : E) (body : SS) : SS := sWhileGo c body n
section
variable {K : PySem.W.Frag} {σ : L2.St} {H : Hp} {D' : Ends} {W : WX}
theorem tsv_while {n : Nat} {c : E} {body : SS} (h : TSv K W (sWhile n c body) D' σ H) : tWhile (TTv K c) (TSv K W body) D' σ H := by
  refine ⟨fun m σ H => TSv K W (sWhileGo c body m) D' σ H, ⟨n, h⟩, fun m σ H h => ?_⟩
  obtain ⟨S, F, ρ, dk, o, ρ', dk', R, e, q⟩ := h
  cases m with
  | zero => cases e
  | succ f =>
    unfold sWhileGo at e
    obtain ⟨⟨x, ρ1, k1⟩, ec, e⟩ := Option.bind_eq_some_iff.mp e
    dsimp only at e
    split at e
    · obtain ⟨⟨o2, ρ2, k2⟩, eb, e⟩ := Option.bind_eq_some_iff.mp e
      refine ⟨S, F, ρ, dk, true, ρ1, k1, R, ec, fun H1 S1 l1 R1 => ?_⟩
      show (if true = true then _ else _ : Prop)
      rw [if_pos rfl]
      refine ⟨fun σ' H' => TSv K W (sWhileGo c body f) D' σ' H', fun σ' H' h => ⟨f, by omega, h⟩, S1, F, ρ1, k1, o2, ρ2, k2, R1, eb, ?_⟩
      dsimp only at e
      cases o2 with
      | nx => exact fun σ' H' S' l2 R2 => ⟨S', F, ρ2, k2, o, ρ', dk', R2, e, by cases o <;> first | exact fun σ2 H2 S2 l3 R3 => q σ2 H2 S2 ((l1.trans l2).trans l3) R3 | exact fun v σ2 H2 S2 l3 R3 rv => q v σ2 H2 S2 ((l1.trans l2).trans l3) R3 rv | exact fun σ2 H2 S2 cls d l3 R3 rv => q σ2 H2 S2 cls d ((l1.trans l2).trans l3) R3 rv⟩
      | ct => exact fun σ' H' S' l2 R2 => ⟨S', F, ρ2, k2, o, ρ', dk', R2, e, by cases o <;> first | exact fun σ2 H2 S2 l3 R3 => q σ2 H2 S2 ((l1.trans l2).trans l3) R3 | exact fun v σ2 H2 S2 l3 R3 rv => q v σ2 H2 S2 ((l1.trans l2).trans l3) R3 rv | exact fun σ2 H2 S2 cls d l3 R3 rv => q σ2 H2 S2 cls d ((l1.trans l2).trans l3) R3 rv⟩
      | bk =>
        cases e
        exact fun σ' H' S' l2 R2 => q σ' H' S' (l1.trans l2) R2
      | rt d =>
        cases e
        exact fun v σ' H' S' l2 R2 rv => q v σ' H' S' (l1.trans l2) R2 rv
      | ex C ns ds =>
        cases e
        exact fun σ' H' S' cls d l2 R2 rv => q σ' H' S' cls d (l1.trans l2) R2 rv
    · cases e
      refine ⟨S, F, ρ, dk, false, _, _, R, ec, fun H1 S1 l1 R1 => ?_⟩
      show (if false = true then _ else _ : Prop)
      rw [if_neg Bool.false_ne_true]
      exact q σ H1 S1 l1 R1
    · cases e
end
section
variable {X : Cx} {c : Expr} {fc : E} {bd : List Stmt} {body : SS} {pos : Pos} {W : WX}
theorem s_while (n : Nat) (hc : PT X c (TTv X.K fc)) (hb : PSs X bd (TSv X.K W body)) (hp : PassesOwn (model X.prog X.w) X.A X.env X.xe) : PS X (.While c bd [] pos) (TSv X.K W (sWhile n fc body)) :=
  (ps_while hp hc hb).imp fun _ _ _ h => tsv_while h
end
abbrev TgS := D → List Sl → Dk → Option (List Sl × Dk)
def TGSv (K : PySem.W.Frag) (g : TgS) : TG := fun v σ H Q => ∃ S F ρ dk d ρ' dk', Rep K σ H S F ρ dk ∧ Rp K S v d ∧ g d ρ dk = some (ρ', dk') ∧ ∀ σ' H' S', Le S S' → Rep K σ' H' S' F ρ' dk' → Q σ' H'
def TGSLv (K : PySem.W.Frag) (g : List D → List Sl → Dk → Option (List Sl × Dk)) : TGs := fun vs σ H Q => ∃ S F ρ dk ds ρ' dk', Rep K σ H S F ρ dk ∧ RpL K S vs ds ∧ g ds ρ dk = some (ρ', dk') ∧ ∀ σ' H' S', Le S S' → Rep K σ' H' S' F ρ' dk' → Q σ' H'
def kSet (i : Nat) : TgS := fun d ρ k => some (ρ.set i (.val d), k)
def kDS (fo fk : E) : TgS := fun d ρ k => (fo ρ k).bind fun o => (fk o.2.1 o.2.2).bind fun i => (setDD (stOf i.2.2) o.1 i.1 d).map fun z => (i.2.1, poke z.1 z.2 i.2.2)
def kNil : List D → List Sl → Dk → Option (List Sl × Dk)
  | [], ρ, k => some (ρ, k)
  | _, _, _ => none
def kCons (g : TgS) (gs : List D → List Sl → Dk → Option (List Sl × Dk)) : List D → List Sl → Dk → Option (List Sl × Dk)
  | d :: ds, ρ, k => (g d ρ k).bind fun x => gs ds x.1 x.2
  | _, _, _ => none
def kTup (gs : List D → List Sl → Dk → Option (List Sl × Dk)) : TgS := fun d ρ k => match d with
  | .tup ds => gs ds ρ k
  | _ => none
/-- targets = e -/
def sAsgS (g : TgS) (f : E) : SS := fun ρ k => (f ρ k).bind fun x => (g x.1 x.2.1 x.2.2).map fun y => (.nx, y.1, y.2)
section
variable {K : PySem.W.Frag} {σ : L2.St} {H : Hp} {D' : Ends} {W : WX} {Q : L2.St → Hp → Prop} {v : V} {vs : List V}
theorem tgs_set {i : Nat} (h : TGSv K (kSet i) v σ H Q) : gName i v σ H Q := by
  obtain ⟨S, F, ρ, dk, d, ρ', dk', R, rv, e, q⟩ := h
  cases e
  exact q _ H S (Le.refl S) (R.put rv)
theorem tgs_DS {fo fk : E} (h : TGSv K (kDS fo fk) v σ H Q) : L2.gSub (TEv K fo) (TEv K fk) rSetD v σ H Q := by
  obtain ⟨S, F, ρ, dk, dv, ρ', dk', R, rv, e, q⟩ := h
  unfold kDS at e
  obtain ⟨⟨x, ρ2, k2⟩, e2, e⟩ := Option.bind_eq_some_iff.mp e
  obtain ⟨⟨y, ρ3, k3⟩, e3, e⟩ := Option.bind_eq_some_iff.mp e
  obtain ⟨⟨n, d⟩, e4, e⟩ := Option.map_eq_some_iff.mp e
  cases e
  refine ⟨S, F, ρ, dk, x, ρ2, k2, R, e2, fun vo H2 S2 l2 R2 ro => ⟨S2, F, ρ2, k2, y, ρ3, k3, R2, e3, fun vi H3 S3 l3 R3 ri => ?_⟩⟩
  unfold setDD at e4
  split at e4
  case h_2 => cases e4
  rename_i m hx
  dsimp only at hx
  subst hx
  split at e4
  case h_2 => cases e4
  rename_i ks vs hd
  obtain ⟨qk, hq, e4⟩ := Option.bind_eq_some_iff.mp e4
  split at e4
  case isFalse => cases e4
  rename_i hlt
  cases e4
  cases ro with
  | @loc a _ hl =>
    obtain ⟨⟨kvs, g1, g2, g3⟩, _⟩ := R3.look (l3.l _ _ hl) hd
    subst g2
    obtain ⟨p1, p2⟩ := put_ok (z := qk) (rv.mono (l2.trans l3)) g3
    exact ⟨a, _, rfl, .inl ⟨kvs, qk, g1, key_of_rp ri hq, by rw [List.length_map] at hlt; exact hlt, rfl⟩, q _ _ S3 (l2.trans l3) (R3.poke (l3.l _ _ hl) ⟨_, upd_same, p1, p2⟩)⟩
theorem tgs_nil (h : TGSLv K kNil vs σ H Q) : gNil vs σ H Q := by
  obtain ⟨S, F, ρ, dk, ds, ρ', dk', R, rv, e, q⟩ := h
  cases rv with
  | nil => cases e; exact ⟨rfl, q _ H S (Le.refl S) R⟩
  | cons _ _ => cases e
theorem tgs_cons {g : TgS} {gs : List D → List Sl → Dk → Option (List Sl × Dk)} (h : TGSLv K (kCons g gs) vs σ H Q) : gCons (TGSv K g) (TGSLv K gs) vs σ H Q := by
  obtain ⟨S, F, ρ, dk, ds, ρ', dk', R, rv, e, q⟩ := h
  cases rv with
  | nil => cases e
  | cons r rr =>
    have e' := e
    unfold kCons at e'
    obtain ⟨⟨ρ1, k1⟩, e1, e2⟩ := Option.bind_eq_some_iff.mp e'
    exact ⟨_, _, rfl, S, F, ρ, dk, _, ρ1, k1, R, r, e1, fun σ1 H1 S1 l1 R1 => ⟨S1, F, ρ1, k1, _, ρ', dk', R1, rr.mono l1, e2, fun σ2 H2 S2 l2 R2 => q σ2 H2 S2 (l1.trans l2) R2⟩⟩
theorem tgs_tup {n : Nat} {gs : List D → List Sl → Dk → Option (List Sl × Dk)} (hn : ∀ ds ρ k x, gs ds ρ k = some x → ds.length = n) (h : TGSv K (kTup gs) v σ H Q) : gTup K n (TGSLv K gs) v σ H Q := by
  obtain ⟨S, F, ρ, dk, d, ρ', dk', R, rv, e, q⟩ := h
  unfold kTup at e
  split at e
  case h_2 => cases e
  cases rv with
  | tup h r => exact ⟨_, _, rfl, R.sh.sqT h, by rw [r.length]; exact hn _ _ _ _ e, S, F, ρ, dk, _, ρ', dk', R, r, e, q⟩
theorem tsv_asgS {g : TgS} {f : E} (h : TSv K W (sAsgS g f) D' σ H) : tAsg (TEv K f) (TGSv K g) D' σ H := by
  obtain ⟨S, F, ρ, dk, o, ρ', dk', R, e, q⟩ := h
  unfold sAsgS at e
  obtain ⟨⟨x, ρ1, k1⟩, e1, e⟩ := Option.bind_eq_some_iff.mp e
  obtain ⟨⟨ρ2, k2⟩, e2, e⟩ := Option.map_eq_some_iff.mp e
  cases e
  exact ⟨S, F, ρ, dk, x, ρ1, k1, R, e1, fun v H1 S1 l1 R1 rv => ⟨S1, F, ρ1, k1, x, _, _, R1, rv, e2, fun σ2 H2 S2 l2 R2 => q σ2 H2 S2 (l1.trans l2) R2⟩⟩
end
theorem kNil_len : ∀ ds ρ k x, kNil ds ρ k = some x → ds.length = 0
  | [], _, _, _, _ => rfl
  | _ :: _, _, _, _, h => by cases h
theorem kCons_len {n : Nat} {g : TgS} {gs : List D → List Sl → Dk → Option (List Sl × Dk)} (hn : ∀ ds ρ k x, gs ds ρ k = some x → ds.length = n) : ∀ ds ρ k x, kCons g gs ds ρ k = some x → ds.length = n + 1
  | [], _, _, _, h => by cases h
  | d :: ds, ρ, k, x, h => by
    unfold kCons at h
    obtain ⟨⟨ρ1, k1⟩, e1, e2⟩ := Option.bind_eq_some_iff.mp h
    rw [List.length_cons, hn _ _ _ _ e2]
section
variable {X : Cx} {o i e tg : Expr} {es : List Expr} {fo fk f : E} {pos : Pos} {g : TgS} {gs : List D → List Sl → Dk → Option (List Sl × Dk)} {W : WX} {n k : Nat}
theorem k_set {j : Nat} {x : Str} (hN : X.N.Nodup) (hi : X.N[j]? = some x) (hx : Loc X.env.scope x) (hf : X.fn x = true ∨ X.env.scope.names.lookup x = some .local := by first | exact .inl rfl | exact .inr (by kernel_rfl!)) : PG X (.Name x pos) (TGSv X.K (kSet j)) := (pg_name hN hi hx hf).imp fun _ _ _ _ h => tgs_set h
theorem k_DS (hu : X.A.units + 1 < cLine) (ho : PE X o (TEv X.K fo)) (hk : PE X i (TEv X.K fk)) (ha : ∀ w, assign (.Subscript o i pos) X.env w = (do
      let ov ← holding [w] (eval o X.env)
      let iv ← holding [w, ov] (eval i X.env)
      standAt pos
      holding [w, ov, iv] (setItem ov iv w)
      release [w, ov, iv] []) := by intro _; kernel_rfl!) : PG X (.Subscript o i pos) (TGSv X.K (kDS fo fk)) := (pg_sub ho hk (set_dict hu) ha).imp fun _ _ _ _ h => tgs_DS h
theorem _root_.L2.PGs.imp {ts : List Expr} {t t' : TGs} (h : L2.PGs X ts t) (i : ∀ v σ H Q, t' v σ H Q → t v σ H Q) : L2.PGs X ts t' := ⟨fun pins s σ H v u Q I r q => h.run pins s σ H v u Q I r (i _ _ _ _ q)⟩
theorem ks_nil : L2.PGs X [] (TGSLv X.K kNil) := pgs_nil.imp fun _ _ _ _ h => tgs_nil h
theorem ks_cons (h1 : PG X e (TGSv X.K g)) (h2 : L2.PGs X es (TGSLv X.K gs)) (hs : (assignEach (e :: es) X.env).map (·.2) = assign e X.env :: (assignEach es X.env).map (·.2) := by kernel_rfl!) : L2.PGs X (e :: es) (TGSLv X.K (kCons g gs)) := (pgs_cons h1 h2 hs).imp fun _ _ _ _ h => tgs_cons h
theorem k_tup (hc : X.calm = true) (h : L2.PGs X es (TGSLv X.K gs)) (hl : ∀ ds ρ k x, gs ds ρ k = some x → ds.length = n) (hn : (assignEach es X.env).length = n := by kernel_rfl!) (hst : (assignEach es X.env).findIdx? (·.1) = none := by kernel_rfl!) : PG X (.Tuple es k pos) (TGSv X.K (kTup gs)) :=
  (pg_tup hc h hn hst).imp fun _ _ _ _ h => tgs_tup hl h
theorem s_asgS {p2 : Pos} (he : PE X e (TEv X.K f)) (hg : PG X tg (TGSv X.K g)) (hs : swapsWithSole [tg] e p2.line X.env = pure false := by kernel_rfl!) (hw : swappedStores [tg] e X.env = pure none := by kernel_rfl!) (h1 : (assignEach [tg] X.env).map (·.2) = [assign tg X.env] := by kernel_rfl!) :
    PS X (.Assign [tg] e p2) (TSv X.K W (sAsgS g f)) := (ps_asg he hg hs hw h1).imp fun _ _ _ h => tsv_asgS h
end
end WS
namespace WS
open PySem PySem.Spec PyProof.Rows L2
end WS
namespace WS
open PySem PySem.Spec PyProof.Rows L2
section
variable {prog : Program} {w : World} {A : Around} {E : Value → Shared → Prop} {s : Shared} {z TI TO T i1 i2 : Addr} {fp1 fp2 : List Addr} {n1 n2 i : Nat} {P1 P2 : Nat → Value → Prop} {St1 St2 : Nat → Heap → Prop}
theorem lz_item {Q : Option Value → Shared → Prop} {f : Bool} {oT : Obj} (S : ZipSep2 z TI TO i1 i2 fp1 fp2) (D1 : Draws prog w A.in1 i1 fp1 n1 P1 St1) (D2 : Draws prog w A.in1 i2 fp2 n2 P2 St2)
    (hz : IsZipHeld s.heap z TI TO T f) (hT : s.heap.get? T = some oT) (hTI : IsTupOf2 s.heap TI (.ref i1) (.ref i2)) (st1 : St1 i s.heap) (st2 : St2 i s.heap) (hlt1 : i < n1) (hlt2 : i < n2)
    (hQ : ∀ x1 x2 h' tk, P1 i x1 → P2 i x2 → IsZipHeld h' z TI TO T true → St1 (i + 1) h' → St2 (i + 1) h' → IsTupOf2 h' s.heap.objs.size x1 x2 → h'.objs.size = s.heap.objs.size + 1 →
      (∀ c o, c ≠ z → c ≠ i1 → c ≠ i2 → s.heap.get? c = some o → h'.get? c = some o) → Q (some (.ref s.heap.objs.size)) { s with heap := h', toks := tk }) :
    wpAny (model prog w) A (pyNext (.ref z)) Q E s := by
  obtain ⟨hp, g, d, tk0, os⟩ := s
  have hTy : Shared.TypeIs ⟨hp, g, d, tk0, os⟩ (.ref z) "zip" := ⟨_, hz, rfl⟩
  unfold pyNext
  refine wpAny_bind (wpAny_attempt (wpAny_callSpecial?_slot (name := Str.ofString "__next__") hTy F.slot_zip_next
    (wpAny_call_entry F.slot_zip_next hTy F.entry_zip_next ?_ (F.args_zip_next_1 _))))
  show wpAny _ _ (field (.ref z) 2 >>= _) _ _ _
  refine wpAny_bind (wpAny_field hz rfl (x := .bool false) rfl ?_)
  show wpAny _ _ (field (.ref z) 3 >>= _) _ _ _
  refine wpAny_bind (wpAny_field hz rfl (x := .ref TI) rfl ?_)
  refine wpAny_bind (wpAny_seqItems hTI rfl ?_)
  show wpAny _ _ (Builtin.SmallTypes.ownedTupleIsFree (.ref z) >>= _) _ _ _
  refine wpAny_bind (wpAny_tupleHeld_zip hz hT fun h₁ hz₁ hs₁ => ?_)
  replace hs₁ : Heap.SameBut z hp h₁ := hs₁
  simp only [Bool.false_eq_true, if_false]
  refine wpAny_bind ?_
  rw [← Array.forIn_toList]
  simp only [List.forIn_cons, List.forIn_nil]
  refine wpAny_bind (wpAny_bind (wpAny_holding ?_))
  show wpAny _ _ (Builtin.SmallTypes.nextOf (.ref i1) >>= _) _ _ ⟨h₁, g, d, tk0, os⟩
  refine wpAny_bind (D1.item i _ _ _ hlt1 (D1.over st1 hs₁ S.zf1) fun x1 p1 tk1 hx1 sn1 hp1 => wpAny_pure ?_)
  replace hp1 : Heap.SameBut i1 h₁ p1 := hp1
  refine wpAny_pure ?_
  refine wpAny_bind (wpAny_bind (wpAny_holding ?_))
  show wpAny _ _ (Builtin.SmallTypes.nextOf (.ref i2) >>= _) _ _ ⟨p1, g, d, tk1, os⟩
  refine wpAny_bind (D2.item i _ _ _ hlt2 (D2.over (D2.over st2 hs₁ S.zf2) hp1 S.sep1_2) fun x2 p2 tk2 hx2 sn2 hp2 => wpAny_pure ?_)
  replace hp2 : Heap.SameBut i2 p1 p2 := hp2
  refine wpAny_pure (wpAny_pure ?_)
  show wpAny _ _ (newTuple [x1, x2] >>= _) _ _ ⟨p2, g, d, tk2, os⟩
  refine wpAny_bind (wpAny_newTuple ?_)
  have hsz : p2.objs.size = hp.objs.size := by rw [hp2.1, hp1.1, hs₁.1]
  have hzz : IsZipHeld p2 z TI TO T true := hp2.extBut _ _ S.zi2 (hp1.extBut _ _ S.zi1 hz₁)
  have hkk : ∀ c o, c ≠ z → c ≠ i1 → c ≠ i2 → hp.get? c = some o → p2.get? c = some o := fun c o cz c1 c2 e => hp2.extBut _ _ c2 (hp1.extBut _ _ c1 (hs₁.extBut _ _ cz e))
  have hpp : IsTupOf2 (p2.push { cls := .type "tuple", data := .seq #[x1, x2] }) p2.objs.size x1 x2 := Heap.get?_push_size _ rfl
  have hz4 : (p2.push { cls := .type "tuple", data := .seq #[x1, x2] }).objs.size = p2.objs.size + 1 := Heap.size_push ..
  refine wpAny_pure ⟨_, rfl, wpAny_pure ?_⟩
  show Q (some (.ref p2.objs.size)) ⟨_, g, d, tk2, os⟩
  rw [hsz] at hpp hz4 ⊢
  exact hQ x1 x2 _ tk2 hx1 hx2 (Heap.get?_push_of_some _ hzz) (D1.frame _ _ _ (D1.over sn1 hp2 S.sep2_1) fun b _ o e => Heap.get?_push_of_some _ e) (D2.frame _ _ _ sn2 fun b _ o e => Heap.get?_push_of_some _ e) hpp hz4 fun c o cz c1 c2 e => Heap.get?_push_of_some _ (hkk c o cz c1 c2 e)
theorem lz_end {Q : Option Value → Shared → Prop} {f : Bool} {oT : Obj} (S : ZipSep2 z TI TO i1 i2 fp1 fp2) (D1 : Draws prog w A.in1 i1 fp1 n1 P1 St1) (D2 : Draws prog w A.in1 i2 fp2 n2 P2 St2)
    (hz : IsZipHeld s.heap z TI TO T f) (hT : s.heap.get? T = some oT) (hTI : IsTupOf2 s.heap TI (.ref i1) (.ref i2)) (st1 : St1 i s.heap) (st2 : St2 i s.heap) (hle1 : i ≤ n1) (hle2 : i ≤ n2) (hend : i = n1 ∨ i = n2)
    (hQ : ∀ h' tk, (∀ c o, c ≠ z → c ≠ i1 → c ≠ i2 → s.heap.get? c = some o → h'.get? c = some o) → Q none { s with heap := h', toks := tk }) : wpAny (model prog w) A (pyNext (.ref z)) Q E s := by
  obtain ⟨hp, g, d, tk0, os⟩ := s
  have hTy : Shared.TypeIs ⟨hp, g, d, tk0, os⟩ (.ref z) "zip" := ⟨_, hz, rfl⟩
  have stop : ∀ (h' : Heap) (tk : Nat) (e : Addr), (∃ o, h'.get? e = some o ∧ o.cls = .type "StopIteration") → (∀ c o, c ≠ z → c ≠ i1 → c ≠ i2 → hp.get? c = some o → h'.get? c = some o) → wpAny (model prog w) A (do if ← isInstance (.ref e) (.type "StopIteration") then pure none else throw (.ref e)) Q E ⟨h', g, d, tk, os⟩ := fun h' tk e ⟨o, ho, hc⟩ hk => by
    refine wpAny_bind (wpAny_isInstance (T := "StopIteration") (b := true) ⟨o, ho, hc⟩ isSubtype_stop ?_)
    exact wpAny_pure (hQ h' tk hk)
  unfold pyNext
  refine wpAny_bind (wpAny_attempt (wpAny_callSpecial?_slot (name := Str.ofString "__next__") hTy F.slot_zip_next
    (wpAny_call_entry F.slot_zip_next hTy F.entry_zip_next ?_ (F.args_zip_next_1 _))))
  show wpAny _ _ (field (.ref z) 2 >>= _) _ _ _
  refine wpAny_bind (wpAny_field hz rfl (x := .bool false) rfl ?_)
  show wpAny _ _ (field (.ref z) 3 >>= _) _ _ _
  refine wpAny_bind (wpAny_field hz rfl (x := .ref TI) rfl ?_)
  refine wpAny_bind (wpAny_seqItems hTI rfl ?_)
  show wpAny _ _ (Builtin.SmallTypes.ownedTupleIsFree (.ref z) >>= _) _ _ _
  refine wpAny_bind (wpAny_tupleHeld_zip hz hT fun h₁ hz₁ hs₁ => ?_)
  replace hs₁ : Heap.SameBut z hp h₁ := hs₁
  simp only [Bool.false_eq_true, if_false]
  refine wpAny_bind ?_
  rw [← Array.forIn_toList]
  simp only [List.forIn_cons, List.forIn_nil]
  refine wpAny_bind (wpAny_bind (wpAny_holding ?_))
  show wpAny _ _ (Builtin.SmallTypes.nextOf (.ref i1) >>= _) _ _ ⟨h₁, g, d, tk0, os⟩
  by_cases hlt1 : i < n1
  · refine wpAny_bind (D1.item i _ _ _ hlt1 (D1.over st1 hs₁ S.zf1) fun x1 p1 tk1 hx1 sn1 hp1 => wpAny_pure ?_)
    replace hp1 : Heap.SameBut i1 h₁ p1 := hp1
    refine wpAny_pure ?_
    refine wpAny_bind (wpAny_bind (wpAny_holding ?_))
    show wpAny _ _ (Builtin.SmallTypes.nextOf (.ref i2) >>= _) _ _ ⟨p1, g, d, tk1, os⟩
    have hi2 : i = n2 := by omega
    refine wpAny_bind (D2.done ⟨p1, g, d, tk1, os⟩ _ _ (by rw [← hi2]; exact (D2.over (D2.over st2 hs₁ S.zf2) hp1 S.sep1_2)) fun q e hq he => ?_)
    exact stop q tk1 e he fun c o cz c1 c2 x => hq _ _ c2 (hp1.extBut _ _ c1 (hs₁.extBut _ _ cz x))
  · have hi1 : i = n1 := by omega
    refine wpAny_bind (D1.done ⟨h₁, g, d, tk0, os⟩ _ _ (by rw [← hi1]; exact D1.over st1 hs₁ S.zf1) fun q e hq he => ?_)
    exact stop q tk0 e he fun c o cz c1 c2 x => hq _ _ c1 (hs₁.extBut _ _ cz x)
end
/-- as it stands amid the loop -/
def LzSt (St1 St2 : Nat → Heap → Prop) (z TI TO i1 i2 S : Addr) (i : Nat) (h : Heap) : Prop :=
  IsTupOf2 h TI (.ref i1) (.ref i2) ∧ St1 i h ∧ St2 i h ∧ ((IsZip h z TI TO .none ∧ ∃ a b, IsTupOf2 h TO a b) ∨ ∃ T f o, IsZipHeld h z TI TO T f ∧ h.get? T = some o ∧ T ≠ z ∧ T ≠ i1 ∧ T ≠ i2 ∧ T ≠ S)
structure LzG (P1 P2 : Nat → Value → Prop) (lo : Addr) (h : Heap) (as : List Addr) : Prop where
  rise : as.Pairwise (· < ·)
  above : ∀ a ∈ as, lo < a
  pairs : ∀ (j : Nat) (a : Addr), as[j]? = some a → ∃ x y, P1 j x ∧ P2 j y ∧ h.get? a = some { cls := .type "tuple", data := .seq #[x, y] }
theorem LzG.there {P1 P2 : Nat → Value → Prop} {lo : Addr} {h : Heap} {as : List Addr} (g : LzG P1 P2 lo h as) {a : Addr} (ha : a ∈ as) : a < h.objs.size := by
  obtain ⟨j, hj⟩ := List.mem_iff_getElem?.mp ha
  obtain ⟨_, _, _, _, e⟩ := g.pairs j a hj
  exact Heap.lt_size e
section
variable {prog : Program} {w : World} {A : Around} {s : Shared} {R : Result → Shared → Prop} {z TI TO i1 i2 : Addr} {fp1 fp2 : List Addr} {n1 n2 : Nat} {P1 P2 : Nat → Value → Prop} {St1 St2 : Nat → Heap → Prop}
theorem lz_loop {S : Addr} (Z : ZipSep2 z TI TO i1 i2 fp1 fp2) (D1 : Draws prog w A.in1.in1 i1 fp1 n1 P1 St1) (D2 : Draws prog w A.in1.in1 i2 fp2 n2 P2 St2)
    (nz : S ≠ z) (nI : S ≠ TI) (nO : S ≠ TO) (s1 : S ∉ fp1) (s2 : S ∉ fp2) (lo : Addr) (hlo : lo ≤ S) (g1 : z ≤ lo) (g2 : TO ≤ lo) (g3 : i1 ≤ lo) (g4 : i2 ≤ lo) (hn : min n1 n2 ≤ sizeLine) (res : Value) {h₁ : Heap}
    (hR : ∀ h' tk acc c as, (∀ b o, b ≠ S → b ≠ z → b ≠ TO → b ≠ i1 → b ≠ i2 → h₁.get? b = some o → h'.get? b = some o) → h'.get? S = some { cls := .type "list", dict := none, data := .seq acc c, slots := #[] } → as.length = min n1 n2 → LzG P1 P2 S h' as →
      acc.toList = as.map Value.ref → R (.ok (.ret res)) { s with heap := h', toks := tk }) :
    ∀ (k i : Nat) (h : Heap) (tk c : Nat) (acc : Array Value) (as : List Addr), min n1 n2 - i = k → i ≤ min n1 n2 → LzSt St1 St2 z TI TO i1 i2 S i h → (∀ b o, b ≠ S → b ≠ z → b ≠ TO → b ≠ i1 → b ≠ i2 → h₁.get? b = some o → h.get? b = some o) →
      h.get? S = some { cls := .type "list", dict := none, data := .seq acc c, slots := #[] } → acc.toList = as.map Value.ref → as.length = i → LzG P1 P2 S h as →
      codeAny (model prog w) A (.builtin "list.extend.loop" ⟨[.ref S, .ref z, res], []⟩) R { s with heap := h, toks := tk } := by
  have m1 : S ≠ i1 := fun e => s1 (e ▸ Z.mem1)
  have m2 : S ≠ i2 := fun e => s2 (e ▸ Z.mem2)
  intro k
  induction k with
  | zero =>
    intro i h tk c acc as hk hi hst hkeep hS hacc hal hG
    have hin : i = min n1 n2 := by omega
    obtain ⟨qTI, q1, q2, q3⟩ := hst
    refine codeAny_builtin PySem.F.entry_extend_loop ?_
    rw [Around.under_plainId PySem.F.plain_extend_loop _]
    show wpAny _ A.in1 (pyNext (.ref z) >>= _) _ _ _
    have fin : ∀ h' tk', (∀ c o, c ≠ z → c ≠ TO → c ≠ i1 → c ≠ i2 → h.get? c = some o → h'.get? c = some o) → R (.ok (.ret res)) { s with heap := h', toks := tk' } := fun h' tk' kp => by
      refine hR h' tk' acc c as (fun b o h1 h2 h3 h4 h5 e => kp b o h2 h3 h4 h5 (hkeep b o h1 h2 h3 h4 h5 e)) (kp S _ nz nO m1 m2 hS) (by omega) ⟨hG.rise, hG.above, fun j a hj => ?_⟩ hacc
      obtain ⟨x, y, e1, e2, e3⟩ := hG.pairs j a hj
      have ab := hG.above a (List.mem_of_getElem? hj)
      exact ⟨x, y, e1, e2, kp a _ (Nat.ne_of_gt (Nat.lt_of_le_of_lt (Nat.le_trans g1 hlo) ab)) (Nat.ne_of_gt (Nat.lt_of_le_of_lt (Nat.le_trans g2 hlo) ab)) (Nat.ne_of_gt (Nat.lt_of_le_of_lt (Nat.le_trans g3 hlo) ab)) (Nat.ne_of_gt (Nat.lt_of_le_of_lt (Nat.le_trans g4 hlo) ab)) e3⟩
    have he : i = n1 ∨ i = n2 := by omega
    rcases q3 with ⟨qz, a, b, qTO⟩ | ⟨T, f, o, qz, qT, _⟩
    · exact wpAny_bind (wpAny_pyNext_zipD2_end (s := { s with heap := h, toks := tk }) Z D1 D2 qz qTI qTO q1 q2 (by omega) (by omega) he fun h' tk' kp => wpAny_pure (fin h' tk' kp))
    · exact wpAny_bind (lz_end (s := { s with heap := h, toks := tk }) Z D1 D2 qz qT qTI q1 q2 (by omega) (by omega) he fun h' tk' kp => wpAny_pure (fin h' tk' fun c o a1 _ a3 a4 e => kp c o a1 a3 a4 e))
  | succ k ih =>
    intro i h tk c acc as hk hi hst hkeep hS hacc hal hG
    have hlt : i < min n1 n2 := by omega
    have hsz : acc.size = i := by rw [← Array.length_toList, hacc, List.length_map, hal]
    obtain ⟨qTI, q1, q2, q3⟩ := hst
    refine codeAny_builtin PySem.F.entry_extend_loop ?_
    rw [Around.under_plainId PySem.F.plain_extend_loop _]
    show wpAny _ A.in1 (pyNext (.ref z) >>= _) _ _ _
    have hSl : S < h.objs.size := Heap.lt_size hS
    have next : ∀ x1 x2 h' tk', P1 i x1 → P2 i x2 → (∃ T f o, IsZipHeld h' z TI TO T f ∧ h'.get? T = some o ∧ T ≠ z ∧ T ≠ i1 ∧ T ≠ i2 ∧ T ≠ S) → St1 (i + 1) h' → St2 (i + 1) h' → IsTupOf2 h' h.objs.size x1 x2 →
        (∀ c o, c ≠ z → c ≠ TO → c ≠ i1 → c ≠ i2 → h.get? c = some o → h'.get? c = some o) → wpAny (model prog w) A.in1 (updateSeq S (·.push (Value.ref h.objs.size)) >>= fun _ => again (.builtin "list.extend.loop" ⟨[.ref S, .ref z, res], []⟩)) (fun fin s' => match fin with | .done f => R (.ok f) s' | .again c' => c'.quiet = true ∧ codeAny (model prog w) A c' R s') (fun e s' => R (.error e) s') { s with heap := h', toks := tk' } := fun x1 x2 h' tk' p1 p2 hz st1 st2 ht hkp => by
      have hS' := hkp S _ nz nO m1 m2 hS
      have up : ∀ b o, b ≠ S → h'.get? b = some o → (h'.update S (Obj.mapSeq (·.push (Value.ref h.objs.size)))).get? b = some o := fun b o hb e => (Heap.get?_update_other _ _ (Ne.symm hb)).trans e
      refine wpAny_bind ?_
      refine wpAny_updateSeq hS' rfl (wpAny_pure ⟨plainId_quiet PySem.F.plain_extend_loop _, ih (i + 1) _ tk' _ (acc.push (Value.ref h.objs.size)) (as ++ [h.objs.size]) (by omega) hlt ⟨up _ _ nI.symm (hkp _ _ Z.TIz Z.TITO Z.TIi1 Z.TIi2 qTI), D1.frame _ _ _ st1 fun b hb o e => up b o (fun q => s1 (q ▸ hb)) e, D2.frame _ _ _ st2 fun b hb o e => up b o (fun q => s2 (q ▸ hb)) e, .inr ?_⟩
        (fun b o h1 h2 h3 h4 h5 e => up b o h1 (hkp b o h2 h3 h4 h5 (hkeep b o h1 h2 h3 h4 h5 e))) (Heap.get?_update_self _ hS' rfl) (by rw [Array.toList_push, hacc, List.map_append]; rfl) (by rw [List.length_append, hal]; rfl) ⟨?_, ?_, ?_⟩⟩) (by rw [hsz]; omega) (by show (acc.push (Value.ref h.objs.size)).size ≤ sizeLine + 1; rw [Array.size_push, hsz]; omega)
      · obtain ⟨T, f, o, a1, a2, a3, a4, a5, a6⟩ := hz
        exact ⟨T, f, o, up _ _ nz.symm a1, up _ _ a6 a2, a3, a4, a5, a6⟩
      · refine List.pairwise_append.mpr ⟨hG.rise, List.pairwise_singleton _ _, fun a ha b hb => ?_⟩
        rw [List.mem_singleton.mp hb]
        exact hG.there ha
      · intro a ha
        rcases List.mem_append.mp ha with ha | ha
        · exact hG.above a ha
        · rw [List.mem_singleton.mp ha]; exact hSl
      · intro j b hj
        rcases Nat.lt_trichotomy j as.length with h1 | h1 | h1
        · rw [List.getElem?_append_left h1] at hj
          obtain ⟨x, y, e1, e2, e3⟩ := hG.pairs j b hj
          have ab := hG.above b (List.mem_of_getElem? hj)
          exact ⟨x, y, e1, e2, up b _ (Nat.ne_of_gt ab) (hkp b _ (Nat.ne_of_gt (Nat.lt_of_le_of_lt (Nat.le_trans g1 hlo) ab)) (Nat.ne_of_gt (Nat.lt_of_le_of_lt (Nat.le_trans g2 hlo) ab)) (Nat.ne_of_gt (Nat.lt_of_le_of_lt (Nat.le_trans g3 hlo) ab)) (Nat.ne_of_gt (Nat.lt_of_le_of_lt (Nat.le_trans g4 hlo) ab)) e3)⟩
        · subst h1
          have hb : h.objs.size = b := by simpa using hj
          subst hb
          exact ⟨x1, x2, by rw [hal]; exact p1, by rw [hal]; exact p2, up _ _ (Nat.ne_of_gt hSl) ht⟩
        · have hnone : (as ++ [h.objs.size])[j]? = none := List.getElem?_eq_none (by rw [List.length_append, List.length_singleton]; omega)
          rw [hnone] at hj; cases hj
    have ne : ∀ a : Addr, a ≤ lo → h.objs.size ≠ a := fun a ha => Nat.ne_of_gt (Nat.lt_of_le_of_lt (Nat.le_trans ha hlo) hSl)
    rcases q3 with ⟨qz, a, b, qTO⟩ | ⟨T, f, o, qz, qT, t1, t2, t3, t4⟩
    · exact wpAny_bind (wpAny_pyNext_zipD2_item (s := { s with heap := h, toks := tk }) Z D1 D2 qz qTI qTO q1 q2 (by omega) (by omega) fun x1 x2 h' tk' p1 p2 b1 b2 d1 d2 b5 b6 kp => next x1 x2 h' tk' p1 p2 ⟨_, false, _, b1, b5, ne _ g1, ne _ g3, ne _ g4, Nat.ne_of_gt hSl⟩ d1 d2 b5 kp)
    · exact wpAny_bind (lz_item (s := { s with heap := h, toks := tk }) Z D1 D2 qz qT qTI q1 q2 (by omega) (by omega) fun x1 x2 h' tk' p1 p2 b1 d1 d2 b5 b6 kp => next x1 x2 h' tk' p1 p2 ⟨T, true, o, b1, kp T o t1 t2 t3 qT, t1, t2, t3, t4⟩ d1 d2 b5 fun c o a1 _ a3 a4 e => kp c o a1 a3 a4 e)
end
theorem nolen_zip : typeLookup (.type "zip") "__len__" = pure none := by rw [typeLookup_type, builtinLookup_eq_fast]; kernel_rfl
theorem nohint_zip : typeLookup (.type "zip") "__length_hint__" = pure none := by rw [typeLookup_type, builtinLookup_eq_fast]; kernel_rfl
section
variable {prog : Program} {w : World} {A : Around} {E : Value → Shared → Prop} {s : Shared} {z TI TO i1 i2 : Addr} {fp1 fp2 : List Addr} {n1 n2 : Nat} {P1 P2 : Nat → Value → Prop} {St1 St2 : Nat → Heap → Prop}
theorem lz_call {Q : Value → Shared → Prop} (Z : ZipSep2 z TI TO i1 i2 fp1 fp2) (D1 : Draws prog w A.in1.in1.in1 i1 fp1 n1 P1 St1) (D2 : Draws prog w A.in1.in1.in1 i2 fp2 n2 P2 St2)
    (hz : IsZip s.heap z TI TO .none) (hTI : IsTupOf2 s.heap TI (.ref i1) (.ref i2)) (hTO : ∃ a b, IsTupOf2 s.heap TO a b) (st1 : St1 0 s.heap) (st2 : St2 0 s.heap)
    (f1 : ∀ b ∈ fp1, b < s.heap.objs.size) (f2 : ∀ b ∈ fp2, b < s.heap.objs.size) (hn : min n1 n2 ≤ sizeLine)
    (hQ : ∀ h' tk acc c as, (∀ b o, b ≠ z → b ≠ TO → b ≠ i1 → b ≠ i2 → s.heap.get? b = some o → h'.get? b = some o) → h'.get? s.heap.objs.size = some { cls := .type "list", dict := none, data := .seq acc c, slots := #[] } → as.length = min n1 n2 → LzG P1 P2 s.heap.objs.size h' as →
      acc.toList = as.map Value.ref → Q (.ref s.heap.objs.size) { s with heap := h', toks := tk }) :
    wpAny (model prog w) A (call (.type "list") [.ref z]) Q E s := by
  have hzl : z < s.heap.objs.size := Heap.lt_size hz
  have hIl : TI < s.heap.objs.size := Heap.lt_size hTI
  have hOl : TO < s.heap.objs.size := by obtain ⟨a, b, h⟩ := hTO; exact Heap.lt_size h
  have h1l : i1 < s.heap.objs.size := f1 _ Z.mem1
  have h2l : i2 < s.heap.objs.size := f2 _ Z.mem2
  have nS : ∀ b : Addr, b < s.heap.objs.size → s.heap.objs.size ≠ b := fun b h => Nat.ne_of_gt h
  refine callType_codes (Q₁ := fun obj s₁ => obj = .ref s.heap.objs.size ∧ s₁ = { s with heap := s.heap.push { cls := .type "list", data := .seq #[] } }) PySem.F.called_list (PySem.F.typeCall_list_1 _) PySem.F.entry_list_init
    (code_list_new _ ⟨rfl, rfl⟩) fun obj s₁ h₁ => ?_
  obtain ⟨rfl, rfl⟩ := h₁
  have hS : (s.heap.push { cls := .type "list", data := .seq #[] }).get? s.heap.objs.size = some { cls := .type "list", data := .seq #[] } := Heap.get?_push_size _ rfl
  refine ⟨⟨_, hS, rfl⟩, PySem.F.args_list_init_2 _ _, ?_⟩
  show wpAny _ A.in1.in1 (do let old ← Builtin.List.listItems (.ref s.heap.objs.size); Builtin.List.listUpdate (.ref s.heap.objs.size) (fun _ => #[]); letGo old.toList.reverse; Builtin.List.listExtendWith (.ref s.heap.objs.size) (.ref z) .none) _ _ _
  refine wpAny_bind ?_
  unfold Builtin.List.listItems
  refine wpAny_bind (wpAny_seqItems hS rfl (wpAny_pure ?_))
  show wpAny _ A.in1.in1 (updateSeq s.heap.objs.size (fun _ => #[]) >>= fun _ => letGo (#[] : Array Value).toList.reverse >>= fun _ => Builtin.List.listExtendWith (.ref s.heap.objs.size) (.ref z) .none) _ _ _
  refine wpAny_bind (wpAny_updateSeq hS rfl ?_)
  have hS2 := Heap.get?_update_self (Obj.mapSeq (fun _ => (#[] : Array Value))) hS rfl
  refine wpAny_bind (wpAny_letGo ?_)
  unfold Builtin.List.listExtendWith
  have up : ∀ (h : Heap) (f : Obj → Obj), (∀ b o, s.heap.get? b = some o → h.get? b = some o) → ∀ b o, s.heap.get? b = some o → (h.update s.heap.objs.size f).get? b = some o := fun h f q b o e =>
    (Heap.get?_update_other _ _ (Ne.symm (Nat.ne_of_lt (Heap.lt_size e)))).trans (q b o e)
  have k1 : ∀ b o, s.heap.get? b = some o → (s.heap.push { cls := .type "list", data := .seq #[] }).get? b = some o := fun b o e => Heap.get?_push_of_some _ e
  have k2 := up _ (Obj.mapSeq (fun _ => (#[] : Array Value))) k1
  have gty : ∀ {h : Heap}, (∀ b o, s.heap.get? b = some o → h.get? b = some o) → Shared.TypeIs { s with heap := h } (.ref z) "zip" := fun {h} q => ⟨_, q _ _ hz, rfl⟩
  refine wpAny_bind (wpAny_typeOf (gty k2) ?_)
  have h1 : Builtin.List.listSameRef (.ref s.heap.objs.size) (.ref z) = false := by simp [Builtin.List.listSameRef, nS z hzl]
  have h2 : (Value.type "zip" == Value.type "list") = false := by decide
  have h3 : (Value.type "zip" == Value.type "tuple") = false := by decide
  simp only [h1, h2, h3, Bool.or_false, Bool.false_eq_true, if_false]
  refine wpAny_bind (wpAny_pyIter_zip (k2 _ _ hz) ?_)
  refine wpAny_bind (wpAny_holding ?_)
  unfold Builtin.List.listLengthHint
  refine wpAny_bind (wpAny_specialOf (gty k2) nolen_zip ?_)
  show wpAny _ A.in1.in1 (specialOf (Value.ref z) (Str.ofString "__length_hint__") >>= _) _ _ _
  refine wpAny_bind (wpAny_specialOf (gty k2) nohint_zip ?_)
  refine wpAny_pure ?_
  show wpAny _ A.in1.in1 (rule "list.extend.makes-room" >>= fun _ => Builtin.List.listTouch (.ref s.heap.objs.size) >>= fun _ =>
    again (.builtin "list.extend.loop" ⟨[.ref s.heap.objs.size, .ref z, .none], []⟩)) _ _ _
  refine wpAny_bind (wpAny_rule ?_)
  refine wpAny_bind ?_
  show wpAny _ A.in1.in1 (updateSeq s.heap.objs.size (·.push .none) >>= fun _ => updateSeq s.heap.objs.size (·.pop)) _ _ _
  refine wpAny_bind (wpAny_updateSeq hS2 rfl ?_)
  have hS3 := Heap.get?_update_self (Obj.mapSeq (·.push Value.none)) hS2 rfl
  refine wpAny_updateSeq (hz := by seq_fits) hS3 rfl ?_
  have hS4 := Heap.get?_update_self (Obj.mapSeq (·.pop)) hS3 rfl
  have k4 := up _ (Obj.mapSeq (·.pop)) (up _ (Obj.mapSeq (·.push Value.none)) k2)
  refine wpAny_pure ⟨plainId_quiet PySem.F.plain_extend_loop _, ?_⟩
  obtain ⟨lo, hlo1, hlo2⟩ : ∃ lo : Nat, lo ≤ s.heap.objs.size ∧ ∀ b : Nat, b < s.heap.objs.size → b ≤ lo := ⟨s.heap.objs.size, Nat.le_refl _, fun b h => Nat.le_of_lt h⟩
  have nf1 : s.heap.objs.size ∉ fp1 := fun h => Nat.lt_irrefl _ (f1 _ h)
  have nf2 : s.heap.objs.size ∉ fp2 := fun h => Nat.lt_irrefl _ (f2 _ h)
  obtain ⟨a0, b0, hTO⟩ := hTO
  refine lz_loop (s := s) (A := A.in1) (h₁ := s.heap) Z D1 D2 (nS z hzl) (nS TI hIl) (nS TO hOl) nf1 nf2 lo hlo1 (hlo2 _ hzl) (hlo2 _ hOl) (hlo2 _ h1l) (hlo2 _ h2l) hn .none
    (fun h' tk acc c as hk hS' hl hG hacc => ⟨rfl, hQ h' tk acc c as (fun b o b1 b2 b3 b4 e => hk b o (Nat.ne_of_lt (Heap.lt_size e)) b1 b2 b3 b4 e) hS' hl hG hacc⟩)
    (min n1 n2) 0 _ _ _ _ [] (Nat.sub_zero _) (Nat.zero_le _) ⟨k4 _ _ hTI, D1.frame _ _ _ st1 fun b _ o e => k4 b o e, D2.frame _ _ _ st2 fun b _ o e => k4 b o e, .inl ⟨k4 _ _ hz, a0, b0, k4 _ _ hTO⟩⟩ (fun b o _ _ _ _ _ e => k4 b o e) hS4 (by first | rfl | simp) rfl ⟨List.Pairwise.nil, (fun _ ha => nomatch ha), (fun j a hj => by simp at hj)⟩
end
/-- what an iterator of any kind draws, wherever it is asked -/
theorem sk_drawsB {X : Cx} {pins : List (Addr × Obj)} {σ : L2.St} {H : Hp} {s : Shared} (I : Inv X pins σ H s) {B : Around} (hh : B.handled = none) {k : SK} {it : Addr} {i : Nat} {h : Heap} {xs : List V} (hx : k.Has X.K H xs) (hk : ∀ b o, s.heap.get? b = some o → h.get? b = some o) (hi : k.Iter h it i) (hne : ∀ a, (k = .l a ∨ k = .t a) → a ≠ it) :
    ∃ (P : Nat → Value → Prop) (St : Nat → Heap → Prop), Draws X.prog X.w B it (k.fp it) xs.length P St ∧ St i h ∧ ∀ j u, P j u → ∃ x, xs[j]? = some x ∧ RelV x u := by
  cases k with
  | l a =>
    obtain ⟨its, rv, p, _⟩ := I.list (show SqL X.K H a xs from hx)
    have e : its.toArray.size = xs.length := by rw [List.size_toArray, rv.length]
    refine ⟨_, _, e ▸ Draws.list hh it a (hne a (.inl rfl)) its.toArray, ⟨hi, p.isList.at fun o z => hk a o z⟩, fun j u hu => ?_⟩
    have hu' : its[j]? = some u := by simpa using hu
    have hj : j < xs.length := by rw [rv.length]; exact (List.getElem?_eq_some_iff.mp hu').1
    obtain ⟨u2, h2, r2⟩ := rv.get (List.getElem?_eq_getElem hj)
    rw [hu'] at h2; cases h2
    exact ⟨_, List.getElem?_eq_getElem hj, r2⟩
  | t a =>
    obtain ⟨its, rv, p, _⟩ := I.tuple (show SqT X.K H a xs from hx)
    have e : its.toArray.size = xs.length := by rw [List.size_toArray, rv.length]
    have p' : s.heap.IsTuple a its.toArray := p
    refine ⟨_, _, e ▸ Draws.tuple hh it a (hne a (.inr rfl)) its.toArray, ⟨hi, p'.at fun o z => hk a o z⟩, fun j u hu => ?_⟩
    have hu' : its[j]? = some u := by simpa using hu
    have hj : j < xs.length := by rw [rv.length]; exact (List.getElem?_eq_some_iff.mp hu').1
    obtain ⟨u2, h2, r2⟩ := rv.get (List.getElem?_eq_getElem hj)
    rw [hu'] at h2; cases h2
    exact ⟨_, List.getElem?_eq_getElem hj, r2⟩
  | s y =>
    obtain ⟨t, hi⟩ := hi
    cases (show xs = signsV y from hx)
    have e : y.cps.size = (signsV y).length := by simp [signsV]
    refine ⟨_, _, e ▸ Draws.text hh it y t, hi, fun j u hu => ?_⟩
    obtain ⟨c, tk, hcx, rfl⟩ := hu
    refine ⟨.str ⟨#[c]⟩, ?_, ⟨tk, rfl⟩⟩
    unfold signsV
    rw [List.getElem?_map, Array.getElem?_toList, hcx]; rfl
/-- pairs tracked at their addresses -/
def putP : Hp → List Addr → List (V × V) → Hp
  | H, a :: as, p :: ps => putP (upd H a (.tup [p.1, p.2])) as ps
  | H, _, _ => H
theorem putP_off {b : Addr} : ∀ (as : List Addr) (ps : List (V × V)) (H : Hp), b ∉ as → putP H as ps b = H b
  | [], _, _, _ => rfl
  | _ :: _, [], _, _ => rfl
  | a :: as, p :: ps, H, h => by
    show putP (upd H a (.tup [p.1, p.2])) as ps b = H b
    rw [putP_off as ps _ (fun z => h (List.mem_cons_of_mem _ z)), upd_ne (fun z => h (by rw [z]; exact List.mem_cons_self))]
theorem putP_at : ∀ (as : List Addr) (ps : List (V × V)) (H : Hp), as.length = ps.length → as.Nodup → Paired (fun (t : Addr) (p : V × V) => putP H as ps t = some (.tup [p.1, p.2])) as ps
  | [], [], _, _, _ => .nil
  | [], _ :: _, _, h, _ => by cases h
  | _ :: _, [], _, h, _ => by cases h
  | a :: as, p :: ps, H, h, hn => by
    have hn' := List.nodup_cons.mp hn
    refine .cons ?_ (putP_at as ps (upd H a (.tup [p.1, p.2])) (Nat.succ.inj h) hn'.2)
    show putP (upd H a (.tup [p.1, p.2])) as ps a = some (.tup [p.1, p.2])
    rw [putP_off as ps _ hn'.1, upd_same]
theorem zip_laid {X : Cx} {pins : List (Addr × Obj)} {σ : L2.St} {H : Hp} {s : Shared} {h' : Heap} {tk : Nat} {ps : List (V × V)} {acc : Array Value} {c : Nat} {as : List Addr} {S : Addr} {ch : List Addr} (I : Inv X pins σ H s) (hz : ps.length ≤ sizeLine) (hSs : s.heap.objs.size ≤ S)
    (hf : ∀ b ∈ ch, FpOk X pins H b) (hch : ∀ b ∈ ch, b < S) (hk : ∀ b o, b ∉ ch → s.heap.get? b = some o → h'.get? b = some o) (hS : h'.get? S = some { cls := .type "list", dict := none, data := .seq acc c, slots := #[] }) (hl : as.length = ps.length)
    (rise : as.Pairwise (· < ·)) (above : ∀ a ∈ as, S < a) (pairs : ∀ (j : Nat) (a : Addr) (p : V × V), as[j]? = some a → ps[j]? = some p → ∃ x y, RelV p.1 x ∧ RelV p.2 y ∧ h'.get? a = some { cls := .type "tuple", data := .seq #[x, y] }) (hacc : acc.toList = as.map Value.ref) :
    ∃ H' : Hp, (∀ b o, H b = some o → H' b = some o) ∧ H S = none ∧ (∀ t ∈ as, H t = none) ∧ S ∉ as ∧ H' S = some (.lst (as.map V.ref)) ∧ Paired (fun (t : Addr) (q : V × V) => H' t = some (.tup [q.1, q.2])) as ps ∧ Inv X pins σ H' { s with heap := h', toks := tk } := by
  have hSn : S ∉ as := fun z => Nat.lt_irrefl _ (above _ z)
  have nd : as.Nodup := List.Pairwise.imp (fun {a b} (h : a < b) => Nat.ne_of_lt h) rise
  have new : ∀ t ∈ as, H t = none := fun t ht => I.hok.fresh (Nat.le_trans hSs (Nat.le_of_lt (above t ht)))
  have newS : H S = none := I.hok.fresh hSs
  have atP := putP_at as ps (upd H S (.lst (as.map V.ref))) hl nd
  have off : ∀ b, b ∉ as → b ≠ S → putP (upd H S (.lst (as.map V.ref))) as ps b = H b := fun b h1 h2 => by rw [putP_off as ps _ h1, upd_ne h2]
  have low : ∀ b o, s.heap.get? b = some o → b ∉ as ∧ b ≠ S := fun b o e => ⟨fun z => absurd (Nat.lt_of_lt_of_le (Heap.lt_size e) hSs) (Nat.not_lt.mpr (Nat.le_of_lt (above b z))), Nat.ne_of_lt (Nat.lt_of_lt_of_le (Heap.lt_size e) hSs)⟩
  have kp : ∀ b u, H b = some u → (putP (upd H S (.lst (as.map V.ref))) as ps) b = some u := fun b u e => by
    rw [off b (fun z => by rw [new b z] at e; cases e) (fun z => by rw [z, newS] at e; cases e)]
    exact e
  have eS : putP (upd H S (.lst (as.map V.ref))) as ps S = some (.lst (as.map V.ref)) := by rw [putP_off as ps _ hSn, upd_same]
  have nit : ∀ b u, H b = some u → b ∉ ch := fun b u e z => by rw [(hf b z).1] at e; cases e
  refine ⟨putP (upd H S (.lst (as.map V.ref))) as ps, kp, newS, new, hSn, eS, atP, ?_⟩
  refine I.step (g' := s.gens) (d' := s.drawn) (ch := ch) (fun b hb => ⟨(hf b hb).2.2.2.1, (hf b hb).2.1, (hf b hb).2.2.2.2.1, (hf b hb).2.2.2.2.2⟩) (fun b o _ _ hc e _ => hk b o hc e) (fun b o _ _ hc e _ => ⟨o.slots, hk b o hc e⟩)
    (fun b o _ e n => ?_) (fun b o hc e => ⟨o, hk b o hc e⟩) (fun b xs e => kp b _ e) (fun b o u e => kp b _ e) (fun b qs e => ⟨#[], by rw [kp b _ e]; simp⟩) (fun m hm => ?_) (fun b u q => ?_) I.bare
  · obtain ⟨z1, z2⟩ := low b o e
    rw [off b z1 z2]
    exact n
  · obtain ⟨o, es, ep, ho, r⟩ := hm
    exact ⟨o, es, ep, hk _ o (fun z => (hf _ z).2.1 rfl) ho, r⟩
  · by_cases hb : b ∈ as
    · obtain ⟨j, p, e1, e2, e3⟩ := LiI.paired_ix atP hb
      rw [e3] at q
      cases q
      obtain ⟨x, y, f1, f2, f3⟩ := pairs j b p e1 e2
      exact ⟨by show 2 ≤ sizeLine; decide, [x, y], .cons f1 (.cons f2 .nil), ⟨_, f3, rfl, _, rfl⟩⟩
    · by_cases hb2 : b = S
      · rw [hb2] at q ⊢
        rw [eS] at q
        cases q
        refine ⟨by rw [List.length_map]; omega, acc.toList, c, by rw [hacc]; exact LiI.vals_refs as, ?_⟩
        rw [Array.toArray_toList]
        exact hS
      · rw [off b hb hb2] at q
        refine (I.hok b u q).stay (fun d v hc y => hk d v ?_ y) (fun d y => kp d _ y) fun d xs y => kp d _ y
        rcases hc with z | z
        · rw [z]; exact nit b u q
        · exact nit d _ z
def tListZ (K : PySem.W.Frag) (ta : TA) : TE := fun σ H Q => ta σ H fun vs H1 => ∃ k1 k2 xs ys, vs = [SK.v k1, SK.v k2] ∧ k1.Has K H1 xs ∧ k2.Has K H1 ys ∧ (xs.zip ys).length ≤ sizeLine ∧
  ∀ (H' : Hp) (p : Addr) (ts : List Addr), (∀ b o, H1 b = some o → H' b = some o) → H1 p = none → (∀ t ∈ ts, H1 t = none) → p ∉ ts → H' p = some (.lst (ts.map V.ref)) → Paired (fun (t : Addr) (q : V × V) => H' t = some (.tup [q.1, q.2])) ts (xs.zip ys) → Q (.ref p) H'
section
variable {X : Cx} {e e2 : Expr} {ta : TA} {p q pos pos2 : Pos}
theorem pe_listZ (hc : X.calm = true) (hg : Gl X "list") (hm : X.mg "list" = none) (hg2 : Gl X "zip") (hm2 : X.mg "zip" = none) (ha : PA X [e, e2] ta)
    (hs : starEach [.Call (.Name "zip" q) [e, e2] [] pos] X.env = (false, eval (.Call (.Name "zip" q) [e, e2] [] pos) X.env) :: starEach [] X.env)
    (hs2 : starEach [e, e2] X.env = (false, eval e X.env) :: starEach [e2] X.env) (hpl2 : (backTo pos (starEach [e2] X.env)).any (·.1) = false) :
    PE X (.Call (.Name "list" p) [.Call (.Name "zip" q) [e, e2] [] pos] [] pos2) (tListZ X.K ta) := by
  refine ⟨fun pins s σ H Q I hq => ?_⟩
  have hbl : bootBuiltins "list" = some (.type "list") := by decide +kernel
  refine wpAny_Call_Name_kw (ld_blt I hg hm hbl ?_)
  refine PyProof.Rows.callWith_type1 ?_ hs rfl
  rw [hs]
  show wpAny _ _ (spliced ((false, eval (.Call (.Name "zip" q) [e, e2] [] pos) X.env) :: backTo pos2 (starEach [] X.env))) _ _ s
  refine Calls.spliced_cons ?_
  refine Call_ (ld_blt I hg2 hm2 PyProof.Rows.boot_zip (PyProof.Rows.callWith_type1 (thn (ha.run pos pins s σ H _ I hq) fun us s1 ⟨vs, H1, I1, r1, q1⟩ => ?_) hs2 hpl2))
  obtain ⟨k1, k2, xs, ys, ex, hqx, hqy, hsz, qq⟩ := q1
  subst ex
  cases r1 with
  | cons r rr =>
    cases rr with
    | cons r' rr =>
      cases rr
      obtain ⟨o1, B1, b1, h1, l1, m1⟩ := sk_begins I1 hqx r
      obtain ⟨o2, B2, b2, h2, l2, m2⟩ := sk_begins I1 hqy r'
      have fresh5 : ∀ c, c ∈ [s1.heap.objs.size + 4, s1.heap.objs.size + 3, s1.heap.objs.size, s1.heap.objs.size + 1] → FpOk X pins H1 c := fun c hcm => by
        have e' : c = s1.heap.objs.size + 4 ∨ c = s1.heap.objs.size + 3 ∨ c = s1.heap.objs.size ∨ c = s1.heap.objs.size + 1 := by simpa using hcm
        have hle : s1.heap.objs.size ≤ c := by
          rcases e' with z | z | z | z <;> rw [z] <;> first | exact Nat.le_refl _ | exact Nat.le_add_right _ _
        exact I1.fpOk hle (I1.hok.fresh hle)
      refine zip_begins2 b1 b2 h1 h2 fun h' hz hTI hTO g1 g2 hsz5 hk => ?_
      have hd : X.A.in1.in1.in1.handled = none := I1.ok.hd hc
      have I2 : Inv X pins σ H1 { s1 with heap := h' } := I1.kept (t' := s1.toks) hk
      have Z := sk_sep l1 l2 s1.heap.objs.size rfl
      obtain ⟨P1, S1, D1, st1, p1⟩ := sk_drawsB I1 hd hqx hk (m1 _ _ g1) (sk_ne (Nat.le_refl _) l1)
      obtain ⟨P2, S2, D2, st2, p2⟩ := sk_drawsB I1 hd hqy hk (m2 _ _ g2) (sk_ne (Nat.le_add_right _ _) l2)
      refine Calls.spliced_nil ?_
      refine lz_call (s := { s1 with heap := h' }) Z D1 D2 hz hTI ⟨_, _, hTO⟩ st1 st2 (fun b hb => ?_) (fun b hb => ?_) (by rw [List.length_zip] at hsz; exact hsz) fun h2 tk acc c as hk2 hS hl hG hacc => ?_
      · show @LT.lt Nat _ b h'.objs.size
        have := fp_le (Nat.le_refl _) l1 hb
        rw [hsz5]
        rcases this with z | z
        · have z' : @Eq Nat b s1.heap.objs.size := z
          omega
        · exact Nat.lt_of_lt_of_le z (Nat.le_add_right _ _)
      · show @LT.lt Nat _ b h'.objs.size
        have := fp_le (h := s1.heap) (n := s1.heap.objs.size + 1) (Nat.le_add_right _ _) l2 hb
        rw [hsz5]
        rcases this with z | z
        · have z' : @Eq Nat b (s1.heap.objs.size + 1) := z
          omega
        · exact Nat.lt_of_lt_of_le z (Nat.le_add_right _ _)
      · obtain ⟨H', k1', k2', k3', k4', k5', k6', J⟩ := zip_laid (tk := tk) (ps := xs.zip ys) (S := h'.objs.size) (ch := [s1.heap.objs.size + 4, s1.heap.objs.size + 3, s1.heap.objs.size, s1.heap.objs.size + 1]) I2 hsz (Nat.le_refl _) fresh5 (fun b hb => by
            have e' : b = s1.heap.objs.size + 4 ∨ b = s1.heap.objs.size + 3 ∨ b = s1.heap.objs.size ∨ b = s1.heap.objs.size + 1 := by simpa using hb
            show @LT.lt Nat _ b h'.objs.size
            rw [hsz5]
            rcases e' with z | z | z | z
            · have z' : @Eq Nat b (s1.heap.objs.size + 4) := z
              omega
            · have z' : @Eq Nat b (s1.heap.objs.size + 3) := z
              omega
            · have z' : @Eq Nat b (s1.heap.objs.size) := z
              omega
            · have z' : @Eq Nat b (s1.heap.objs.size + 1) := z
              omega) (fun b o hb e => hk2 b o (fun z => hb (by simp [z])) (fun z => hb (by simp [z])) (fun z => hb (by simp [z])) (fun z => hb (by simp [z])) e) hS (by rw [List.length_zip]; exact hl) hG.rise hG.above (fun j a pp e1 e2 => by
            obtain ⟨x, y, a1, a2, a3⟩ := hG.pairs j a e1
            obtain ⟨u, hu, ru⟩ := p1 j x a1
            obtain ⟨v, hv, rv⟩ := p2 j y a2
            have ez : (xs.zip ys)[j]? = some (u, v) := by rw [List.getElem?_zip_eq_some]; exact ⟨hu, hv⟩
            rw [ez] at e2
            cases e2
            exact ⟨x, y, ru, rv, a3⟩) hacc
        exact ⟨.ref h'.objs.size, H', J, rfl, qq H' _ as k1' k2' k3' k4' k5' k6'⟩
end
theorem zip_rp {K : PySem.W.Frag} {S S' : Sx} {H' : Hp} (l : Le S S') : ∀ {ts : List Addr} {xs ys : List V} {ds es : List D}, (∀ t ∈ ts, S'.hp t = H' t) → Paired (fun (t : Addr) (q : V × V) => H' t = some (.tup [q.1, q.2])) ts (xs.zip ys) → RpL K S xs ds → RpL K S ys es → RpL K S' (ts.map V.ref) (List.zipWith (fun x y => .tup [x, y]) ds es)
  | ts, [], ys, _, es, _, h, .nil, r => by
    rw [List.zip_nil_left] at h
    cases h
    simp only [List.map_nil, List.zipWith_nil_left]
    exact .nil
  | ts, _ :: _, [], _, _, _, h, .cons _ _, .nil => by
    rw [List.zip_nil_right] at h
    cases h
    exact .nil
  | [], _ :: _, _ :: _, _, _, _, h, _, _ => by cases h
  | t :: ts, x :: xs, y :: ys, _, _, hp, h, .cons a ra, .cons b rb => by
    rw [List.zip_cons_cons] at h
    cases h with
    | cons e r => exact .cons (.tup (.inl (.inl ((hp _ List.mem_cons_self).trans e))) (.cons (a.mono l) (.cons (b.mono l) .nil))) (zip_rp l (fun t z => hp t (List.mem_cons_of_mem _ z)) r ra rb)
def gListZ (ds : List D) : Option D := (gZipG ds).bind fun zs => if zs.length ≤ sizeLine then some (.lst zs) else none
section
variable {X : Cx} {e e2 : Expr} {fs : EL} {p q pos pos2 : Pos}
theorem d_listZ (hc : X.calm = true) (hg : Gl X "list") (hm : X.mg "list" = none) (hg2 : Gl X "zip") (hm2 : X.mg "zip" = none) (ha : PA X [e, e2] (TAv X.K fs))
    (hs : starEach [.Call (.Name "zip" q) [e, e2] [] pos] X.env = (false, eval (.Call (.Name "zip" q) [e, e2] [] pos) X.env) :: starEach [] X.env := by kernel_rfl!)
    (hs2 : starEach [e, e2] X.env = (false, eval e X.env) :: starEach [e2] X.env := by kernel_rfl!) (hpl2 : (backTo pos (starEach [e2] X.env)).any (·.1) = false := by kernel_rfl!) :
    PE X (.Call (.Name "list" p) [.Call (.Name "zip" q) [e, e2] [] pos] [] pos2) (TEv X.K (eApp gListZ fs)) :=
  (pe_listZ hc hg hm hg2 hm2 ha hs hs2 hpl2).imp fun σ H Q h => tev_app (t := tListZ X.K) (r := fun vs H1 Q => ∃ k1 k2 xs ys, vs = [SK.v k1, SK.v k2] ∧ k1.Has X.K H1 xs ∧ k2.Has X.K H1 ys ∧ (xs.zip ys).length ≤ sizeLine ∧
      ∀ (H' : Hp) (p : Addr) (ts : List Addr), (∀ b o, H1 b = some o → H' b = some o) → H1 p = none → (∀ t ∈ ts, H1 t = none) → p ∉ ts → H' p = some (.lst (ts.map V.ref)) → Paired (fun (t : Addr) (q : V × V) => H' t = some (.tup [q.1, q.2])) ts (xs.zip ys) → Q (.ref p) H') (fun _ _ _ _ h => h) (fun S H vs ds z Q sh r e qk => by
    unfold gListZ at e
    obtain ⟨zs, e0, e⟩ := Option.bind_eq_some_iff.mp e
    split at e
    case isFalse => cases e
    rename_i hl
    cases e
    unfold gZipG at e0
    split at e0
    case h_2 => cases e0
    obtain ⟨xs, e1, e0⟩ := Option.bind_eq_some_iff.mp e0
    obtain ⟨ys, e2, e0⟩ := Option.map_eq_some_iff.mp e0
    subst e0
    cases r with
    | cons r1 r2 =>
      cases r2 with
      | cons r2 r3 =>
        cases r3
        obtain ⟨k1, us, rfl, h1, q1⟩ := src_sk r1 e1
        obtain ⟨k2, ws, rfl, h2, q2⟩ := src_sk r2 e2
        refine ⟨_, _, _, _, rfl, h1.sub sh, h2.sub sh, by rw [List.length_zip, q1.length, q2.length]; rw [List.length_zipWith] at hl; exact hl, fun H' L ts k1 k2 k3 k4 k5 k6 => ?_⟩
        have gr : Grow S H (newS S H' (L :: ts)) H' := newS_grow sh k1 fun b hb => by
          rcases List.mem_cons.mp hb with rfl | hb
          · exact k2
          · exact k3 b hb
        exact qk _ _ _ gr (.lst ((newS_in List.mem_cons_self).trans k5) (zip_rp gr.le (fun t ht => newS_in (List.mem_cons_of_mem _ ht)) k6 q1 q2))) h
end
end WS
namespace WS
open PySem PySem.Spec PyProof.Rows L2 WO
end WS
namespace WS
open PySem PySem.Spec PyProof.Rows L2
def gMaxL : List D → Option D
  | [.lst xs] => (intsOf xs).bind fun ns => match ns with
    | [] => none
    | n :: r => some (.int (r.foldl max n))
  | _ => none
def gCountI : D → D → Option D
  | .lst xs, .int i => (intsOf xs).map fun ns => .int (ns.count i : Nat)
  | _, _ => none
theorem foldl_max : ∀ (r : List Int) (n : Int), r.foldl max n ∈ n :: r ∧ ∀ y, y ∈ n :: r → y ≤ r.foldl max n
  | [], n => ⟨by simp, by simp⟩
  | x :: r, n => by
    obtain ⟨h1, h2⟩ := foldl_max r (max n x)
    show r.foldl max (max n x) ∈ _ ∧ ∀ y, y ∈ n :: x :: r → y ≤ r.foldl max (max n x)
    have hm : max n x ≤ r.foldl max (max n x) := h2 _ List.mem_cons_self
    refine ⟨?_, fun y hy => ?_⟩
    · rcases List.mem_cons.mp h1 with e | e
      · rw [e]
        by_cases c : n ≤ x
        · rw [Int.max_eq_right c]; simp
        · rw [Int.max_eq_left (by omega)]; simp
      · exact List.mem_cons_of_mem _ (List.mem_cons_of_mem _ e)
    · rcases List.mem_cons.mp hy with e | hy
      · omega
      · rcases List.mem_cons.mp hy with e | hy
        · omega
        · exact h2 y (List.mem_cons_of_mem _ hy)
section
variable {X : Cx}
theorem x_maxL (hc : X.calm = true) : CallX X (.builtin "max") gMaxL := by
  refine ⟨_, cr_max hc, fun S H xs ds z Q sh r eg q => ?_⟩
  unfold gMaxL at eg
  split at eg
  case h_2 => cases eg
  rename_i l
  obtain ⟨ns, h, eg⟩ := Option.bind_eq_some_iff.mp eg
  obtain ⟨v, rfl, rv⟩ := one_of r
  cases rv with
  | lst h1 r =>
    refine ⟨_, ns, rfl, by rw [← intsOf_vs r h]; exact .inl (.inl (sh _ _ h1)), ?_, fun m hm hy => ?_⟩
    · cases ns with
      | nil => cases eg
      | cons n r => simp
    · cases ns with
      | nil => cases eg
      | cons n r =>
        cases eg
        obtain ⟨g1, g2⟩ := foldl_max r n
        have e : m = r.foldl max n := by
          have := hy _ g1
          have := g2 _ hm
          omega
        rw [e]
        exact q _ S H (Grow.refl sh) (.int _)
theorem x_max2 (hc : X.calm = true) : CallX X (.builtin "max") gMax2 := by
  refine ⟨_, call_max2 hc, fun S H xs ds z Q sh r eg q => ?_⟩
  unfold gMax2 at eg
  split at eg
  case h_2 => cases eg
  cases eg
  obtain ⟨v, u, rfl, rv, ru⟩ := two_of r
  cases rv
  cases ru
  exact ⟨_, _, rfl, q _ S H (Grow.refl sh) (.int _)⟩
def rCountI (K : PySem.W.Frag) : V → List V → Hp → VK → Prop := fun x xs H Q => ∃ (a : Addr) (ns : List Int) (i : Int), x = .ref a ∧ xs = [.int i] ∧ SqL K H a (ns.map V.int) ∧ Q (.int (ns.count i : Nat)) H
theorem count_eqU {i : Int} : ∀ {ns : List Int} {its : List Value}, Vals (ns.map V.int) its → its.countP (eqU (.int i)) = ns.count i
  | [], its, h => by rw [List.map_nil] at h; cases h; rfl
  | n :: ns, its, h => by
    rw [List.map_cons] at h
    cases h with
    | cons r t =>
      rw [List.countP_cons, List.count_cons, count_eqU t, eqU_of r rfl]
      show _ + (if (n == i) = true then 1 else 0) = _
      rfl
theorem mt_countI : MtR X "list.count" (rCountI X.K) := by
  intro pins s σ H x xs v us Q I rx rxs h
  obtain ⟨a, ns, i, rfl, rfl, hs, q⟩ := h
  cases rx
  cases rxs with
  | cons ry rt =>
    rename_i uy ut
    cases rt
    obtain ⟨its, rv, ⟨⟨cls, dd, data, sl⟩, n, ho, hc, hdn, hd⟩, hlen⟩ := I.list hs
    simp only at hc hd
    subst hc hd
    have fl : (ns.map V.int).all flatV = true := by
      rw [List.all_eq_true]
      intro v hv
      obtain ⟨n, _, rfl⟩ := List.mem_map.mp hv
      rfl
    refine call_meets PySem.F.slot_list_count ⟨_, ho, rfl⟩ PySem.F.entry_list_count (PySem.F.args_list_count_2 _ _)
      (SeqAt.list_countAt a its.toArray n dd sl uy (eqU (.int i))) ⟨ho, fun u' hu' => mem_eqAt ry rfl rv fl u' (by simpa using hu'), ?_⟩
    exact ⟨.int (ns.count i : Nat), H, I.tok _, ⟨_, by rw [List.toList_toArray, count_eqU rv]⟩, q⟩
end
section
variable {K : PySem.W.Frag} {σ : L2.St} {H : Hp} {Q : VK}
theorem tev_countI {fa fb : E} (h : TEv K (eOp gCountI fa fb) σ H Q) : tBM K "list" (rCountI K) (TEv K fa) (tCons (TEv K fb) tNil) σ H Q := by
  obtain ⟨S, F, ρ, dk, d, ρ', dk', R, e, q⟩ := h
  unfold eOp at e
  obtain ⟨⟨x, ρ1, k1⟩, ea, e⟩ := Option.bind_eq_some_iff.mp e
  obtain ⟨⟨y, ρ2, k2⟩, eb, e⟩ := Option.bind_eq_some_iff.mp e
  obtain ⟨z, ez, e⟩ := Option.map_eq_some_iff.mp e
  cases e
  replace ez : gCountI x y = some d := ez
  unfold gCountI at ez
  split at ez
  case h_2 => cases ez
  obtain ⟨ns, hn, ez⟩ := Option.map_eq_some_iff.mp ez
  subst ez
  refine ⟨S, F, ρ, dk, _, _, _, R, ea, fun v H1 S1 l1 R1 rv => ?_⟩
  cases rv with
  | lst hl r =>
    refine ⟨.inl ⟨rfl, _, .inl (.inl (R1.sh _ _ hl))⟩, S1, F, ρ1, k1, _, _, _, R1, eb, fun u H2 S2 l2 R2 ru => ?_⟩
    cases ru
    exact ⟨_, ns, _, rfl, rfl, by rw [← intsOf_vs r hn]; exact .inl (.inl (R2.sh _ _ (l2.s _ _ hl))), q _ H2 S2 (l1.trans l2) R2 (.int _)⟩
end
section
variable {X : Cx} {o e : Expr} {fo fa : E} {apos cpos : Pos}
theorem d_countI (ho : PE X o (TEv X.K fo)) (he : PE X e (TEv X.K fa)) (hbase : attributeBase o "count" X.env (eval o X.env) = eval o X.env := by kernel_rfl!)
    (hfew : ((backTo cpos (starEach [e] X.env)).all (fun x => !x.1) && (backToKw cpos (keywordEach [] X.env)).all (fun x => x.1.isSome) && decide ([e].length + ([] : List Keyword).length + (if ([] : List Keyword).isEmpty then 0 else 1) < 30)) = true := by kernel_rfl!)
    (hline : (apos.endLine == cpos.line) = true := by kernel_rfl!) (hs : starEach [e] X.env = (false, eval e X.env) :: starEach [] X.env := by kernel_rfl!) (hpl : (backTo cpos (starEach [] X.env)).any (·.1) = false := by kernel_rfl!) :
    PE X (.Call (.Attribute o "count" apos) [e] [] cpos) (TEv X.K (eOp gCountI fo fa)) :=
  (pe_bm PySem.F.plainAttrs_list PySem.F.slot_list_count PySem.F.type_list_count mt_countI ho (pa_cons he pa_nil hs) hbase hfew hline hs hpl).imp fun _ _ _ h => tev_countI h
end
theorem bounds_tail {a n : Nat} (h : a ≤ n) : sliceBounds (some (a : Int)) none none n = ((a : Int), (n : Int), 1) := by
  obtain ⟨h1, h2, h3⟩ := slice_bounds (some (a : Int)) none n
  refine Prod.ext ?_ (Prod.ext ?_ h3)
  · rw [h1, HT.sIx_nat]
    show ((min a n : Nat) : Int) = (a : Int)
    rw [Nat.min_eq_left h]
  · rw [h2, HT.sIx_none]
section
variable {prog : Program} {w : World} {A : Around} {E : Value → Shared → Prop} {s : Shared}
theorem setItem_tail {l b sl : Addr} {items new : Array Value} {n n2 : Nat} {vl : Value} {a : Nat} {Q : Unit → Shared → Prop}
    (e : s.heap.get? l = some { cls := .type "list", data := .seq items n }) (e2 : s.heap.get? b = some { cls := .type "list", data := .seq new n2 }) (hne : l ≠ b)
    (hs : s.heap.IsSliceOf sl vl .none .none) (pl : IsPart vl (some (a : Int))) (hac : a ≤ items.size)
    (hsz : items.size + new.size ≤ sizeLine) (h : Q () { s with heap := s.heap.update l (Obj.mapSeq fun xs => xs.extract 0 a ++ new ++ xs.extract items.size xs.size) }) :
    wpAny (model prog w) A (setItem (.ref l) (.ref sl) (.ref b)) Q E s := by
  have hl : s.heap.IsList l items := PySem.IsL.isList e
  have hb : s.heap.IsList b new := PySem.IsL.isList e2
  obtain ⟨os, hos, hcs, hds⟩ := id hs
  have hTs : s.TypeIs (.ref sl) "slice" := ⟨os, hos, hcs⟩
  have hstep : ¬ ((rawPart none == rawInt 0) = true) := Bool.false_ne_true
  have hsame : Builtin.List.listSameRef (.ref l) (.ref b) = false := by
    unfold Builtin.List.listSameRef
    exact beq_eq_false_iff_ne.mpr hne
  have hmax : (max (a : Int) (items.size : Int)).toNat = items.size := by omega
  have hz' : ((fun xs : Array Value => xs.extract 0 a ++ new ++ xs.extract items.size xs.size) items).size ≤ sizeLine + 1 := by
    simp only [Array.size_append, Array.size_extract]
    omega
  unfold setItem
  try with_reducible refine wpAny_holding ?_
  first | refine wpAny_bind (wpAny_pure ?_) | skip
  refine wpAny_bind (wpAny_sequenceKey hl.typeIs (by decide) ?_)
  refine wpAny_bind (wpAny_callSpecial?_slot (name := Str.ofString "__setitem__") hl.typeIs slot_list_setitem
    (wpAny_call_entry slot_list_setitem hl.typeIs entry_list_setitem ?_ (args_list_setitem _ _ _)))
  show wpAny _ _ (Builtin.List.listSubscript? (.ref sl) >>= _) _ _ s
  refine wpAny_bind ?_
  unfold Builtin.List.listSubscript?
  refine wpAny_bind (wpAny_specialOf hTs slice_no_index ?_)
  simp only [Option.isNone_none, if_true]
  refine wpAny_pure ?_
  show wpAny _ _ (typeOf (.ref sl) >>= _) _ _ s
  refine wpAny_bind (wpAny_typeOf hTs ?_)
  first
    | rw [if_neg (by decide)]
    | refine PySem.W.KFB.if_not (by decide) ?_
  rw [listSliceParts_eq]
  refine wpAny_bind (wpAny_bind (wpAny_field hos hds (x := .none) rfl (wpAny_bind (wpAny_listPart .none ?_))))
  rw [if_neg hstep]
  refine wpAny_bind (wpAny_field hos hds (x := vl) rfl (wpAny_bind (wpAny_listPart pl ?_)))
  refine wpAny_bind (wpAny_field hos hds (x := .none) rfl (wpAny_bind (wpAny_listPart .none (wpAny_pure ?_))))
  first
    | simp only [hsame, Bool.false_eq_true, if_false]
    | refine PySem.W.KFB.if_not hsame ?_
    | (dsimp only
       rw [if_neg (by rw [hsame]; exact Bool.false_ne_true)])
  refine wpAny_bind (m := Builtin.List.listAllItems (.ref b) "must assign iterable to extended slice") ?_
  unfold Builtin.List.listAllItems
  refine wpAny_bind (wpAny_typeOf hb.typeIs ?_)
  first
    | refine PySem.W.KFB.if_so (by decide) ?_
    | rw [if_pos (by decide)]
    | simp only [beq_self_eq_true, Bool.true_or, if_true]
  unfold Builtin.List.listItems
  refine wpAny_bind (wpAny_seqItems e2 rfl (wpAny_pure ?_))
  refine wpAny_bind (wpAny_bind (wpAny_seqItems e rfl (wpAny_pure ?_)))
  refine wpAny_bind (wpAny_of_eq ((sliceIndices_raw (some (a : Int)) none none items.size (by simp)).trans (congrArg (pure : Int × Int × Int → Sem (Int × Int × Int)) (bounds_tail hac))) ?_)
  show wpAny _ _ (if ((1 : Int) == 1) = true then _ else _) _ _ s
  rw [if_pos (by decide)]
  refine wpAny_bind (wpAny_rule ?_)
  first
    | simp only [notLongL hsz, Bool.false_eq_true, if_false]
    | refine PySem.W.KFB.if_not (notLongL hsz) ?_
  first | refine wpAny_bind (wpAny_pure ?_) | skip
  show wpAny _ _ (updateSeq l (fun xs => xs.extract 0 ((a : Int)).toNat ++ new ++ xs.extract (max (a : Int) (items.size : Int)).toNat xs.size) >>= _) _ _ s
  rw [hmax, Int.toNat_natCast]
  refine wpAny_bind (wpAny_updateSeq (hz := Nat.le_trans (Nat.le_add_right _ _) hsz) (_hz' := hz') e rfl ?_)
  refine wpAny_bind (wpAny_letGo ?_)
  first
    | exact wpAny_bind (wpAny_pure (wpAny_pure ⟨.none, rfl, wpAny_pure h⟩))
    | exact wpAny_pure ⟨.none, rfl, wpAny_pure h⟩
end
section
variable {X : Cx}
def gSlS (to : TE) (tl : TE) : TG := fun v σ H Q => to σ H fun o H1 => tl σ H1 fun i H2 => ∃ l b xs ys a, o = .ref l ∧ v = .ref b ∧ i = .int a ∧ H2 l = some (.lst xs) ∧ H2 b = some (.lst ys) ∧ l ≠ b ∧ 0 ≤ a ∧ a ≤ (xs.length : Int) ∧ xs.length + ys.length ≤ sizeLine ∧ Q σ (upd H2 l (.lst (xs.take a.toNat ++ ys)))
theorem pg_slS {o i : Expr} {to tl : TE} {pos p2 : Pos} (ho : PE X o to) (hi : PE X i tl)
    (ha : ∀ v, assign (.Subscript o (.Slice (some i) none none p2) pos) X.env v = (do
      let ov ← holding [v] (eval o X.env)
      let iv ← holding [v, ov] (eval (.Slice (some i) none none p2) X.env)
      standAt pos
      holding [v, ov, iv] (setItem ov iv v)
      release [iv, v, ov] []) := by intro _; kernel_rfl!) : PG X (.Subscript o (.Slice (some i) none none p2) pos) (gSlS to tl) := by
  refine ⟨fun pins s σ H v u Q I r h => ?_⟩
  rw [ha]
  refine wpAny_bind (wpAny_holding (thn (ho.run pins s σ H _ I h) fun ov s1 ⟨x, H1, I1, r1, q1⟩ => ?_))
  refine wpAny_bind (wpAny_holding (wpAny_Slice ?_))
  rw [evalPart_some]
  refine thn (hi.run pins s1 σ H1 _ I1 q1) fun vl s2 ⟨y, H2, I2, r2, q2⟩ => ?_
  rw [evalPart_none]
  refine wpAny_pure ?_
  refine wpAny_pure ?_
  obtain ⟨l, b, xs, ys, a, rfl, rfl, rfl, hl, hb, hne, h0, hle, hz, q⟩ := q2
  obtain ⟨ta, rfl⟩ := r2
  cases r1
  cases r
  have I4 : Inv X pins σ H2 { s2 with heap := s2.heap.push { cls := .type "slice", data := .fields #[.int a ta, .none, .none] } } := I2.kept (t' := s2.toks) fun b ob q => Heap.get?_push_of_some _ q
  refine wpAny_bind (wpAny_standAt (wpAny_bind (wpAny_holding ?_)))
  obtain ⟨a', rfl⟩ := Int.eq_ofNat_of_zero_le h0
  obtain ⟨z, its, n, rr, hl1, e⟩ := I4.lstM hl
  obtain ⟨z2, its2, n2, rr2, hl2, e2⟩ := I4.lstM hb
  refine setItem_tail (a := a') e e2 hne (Heap.IsSliceOf.new ..) (.int _ _) (by rw [List.size_toArray]; omega) (by rw [List.size_toArray, List.size_toArray]; omega) ?_
  refine wpAny_release ⟨σ, upd H2 l (.lst (xs.take a' ++ ys)), ?_, q⟩
  refine I4.lset (its' := its.take a' ++ its2) (t' := s2.toks) hl e ?_ (Vals.append (rr.take _) rr2) ?_
  · have := splice_eq its its2 a' its.length
    rw [List.drop_length, List.append_nil] at this
    simpa using this
  · rw [List.length_append, List.length_take]
    omega
end
/-- o[a:] = value, o a list of the store -/
def sSlS (fv fo fl : E) : SS := fun ρ k => (fv ρ k).bind fun v => (fo v.2.1 v.2.2).bind fun o => (fl o.2.1 o.2.2).bind fun l => match v.1 with
  | .lst ys => match o.1 with
    | .loc n => match l.1 with
      | .int a => match (stOf l.2.2)[n]? with
        | some (.lst xs) => if 0 ≤ a ∧ a ≤ (xs.length : Int) ∧ xs.length + ys.length ≤ sizeLine then some (.nx, l.2.1, poke n (.lst (xs.take a.toNat ++ ys)) l.2.2) else none
        | _ => none
      | _ => none
    | _ => none
  | _ => none
section
variable {K : PySem.W.Frag} {σ : L2.St} {H : Hp} {D' : Ends} {W : WX}
theorem tsv_slS {fv fo fl : E} (h : TSv K W (sSlS fv fo fl) D' σ H) : tAsg (TEv K fv) (gSlS (TEv K fo) (TEv K fl)) D' σ H := by
  obtain ⟨S, F, ρ, dk, oo, ρ', dk', R, e, q⟩ := h
  unfold sSlS at e
  obtain ⟨⟨x, ρ1, k1⟩, e1, e⟩ := Option.bind_eq_some_iff.mp e
  obtain ⟨⟨y, ρ2, k2⟩, e2, e⟩ := Option.bind_eq_some_iff.mp e
  obtain ⟨⟨z, ρ3, k3⟩, e3, e⟩ := Option.bind_eq_some_iff.mp e
  dsimp only at e
  split at e
  case h_2 => cases e
  rename_i ys
  split at e
  case h_2 => cases e
  rename_i n
  split at e
  case h_2 => cases e
  rename_i a
  split at e
  case h_2 => cases e
  rename_i xs hd
  split at e
  case isFalse => cases e
  rename_i hh
  cases e
  refine ⟨S, F, ρ, dk, _, ρ1, k1, R, e1, fun v H1 S1 l1 R1 rv => ⟨S1, F, ρ1, k1, _, ρ2, k2, R1, e2, fun vo H2 S2 l2 R2 ro => ⟨S2, F, ρ2, k2, _, _, k3, R2, e3, fun vi H3 S3 l3 R3 ri => ?_⟩⟩⟩
  cases ri
  cases rv with
  | lst hv rys =>
    cases ro with
    | @loc p _ hlo =>
      obtain ⟨⟨ws, g1, g2⟩, g3, _⟩ := R3.look (l3.l _ _ hlo) hd
      have hb := R3.sh _ _ (l3.s _ _ (l2.s _ _ hv))
      refine ⟨p, _, ws, _, a, rfl, rfl, rfl, g1, hb, fun z => ?_, hh.1, by rw [g2.length]; exact hh.2.1, by rw [g2.length, rys.length]; exact hh.2.2, ?_⟩
      · have hb' := l3.s _ _ (l2.s _ _ hv)
        rw [← z, g3] at hb'
        cases hb'
      · exact q _ _ S3 ((l1.trans l2).trans l3) (R3.poke (l3.l _ _ hlo) ⟨_, upd_same, (g2.take _).app (rys.mono (l2.trans l3))⟩)
end
section
variable {X : Cx} {W : WX} {v o i : Expr} {fv fo fl : E} {pos p1 p2 : Pos}
theorem s_slS (hv : PE X v (TEv X.K fv)) (ho : PE X o (TEv X.K fo)) (hi : PE X i (TEv X.K fl))
    (ha : ∀ v, assign (.Subscript o (.Slice (some i) none none p2) p1) X.env v = (do
      let ov ← holding [v] (eval o X.env)
      let iv ← holding [v, ov] (eval (.Slice (some i) none none p2) X.env)
      standAt p1
      holding [v, ov, iv] (setItem ov iv v)
      release [iv, v, ov] []) := by intro _; kernel_rfl!)
    (hs : swapsWithSole [.Subscript o (.Slice (some i) none none p2) p1] v pos.line X.env = pure false := by kernel_rfl!) (hw : swappedStores [.Subscript o (.Slice (some i) none none p2) p1] v X.env = pure none := by kernel_rfl!)
    (h1 : (assignEach [.Subscript o (.Slice (some i) none none p2) p1] X.env).map (·.2) = [assign (.Subscript o (.Slice (some i) none none p2) p1) X.env] := by kernel_rfl!) :
    PS X (.Assign [.Subscript o (.Slice (some i) none none p2) p1] v pos) (TSv X.K W (sSlS fv fo fl)) := (ps_asg hv (pg_slS ho hi ha) hs hw h1).imp fun _ _ _ h => tsv_slS h
end
/-- o[::-1], o a list of the store: a new list, a value -/
def eRevS (fo : E) : E := fun ρ k => (fo ρ k).bind fun x => (lsOfD (drf 1 (stOf x.2.2) x.1)).map fun ds => (.lst ds.reverse, x.2.1, x.2.2)
theorem d_revS {X : Cx} {a : Expr} {fa : E} {k : Nat} {p1 p2 p3 pos : Pos} (he : PE X a (TEv X.K fa)) : PE X (.Subscript a (.Slice none none (some (.UnaryOp .USub (.Constant (.int 1) k p1) p2)) p3) pos) (TEv X.K (eRevS fa)) :=
  (pe_revA he).imp fun σ H Q h => by
    obtain ⟨S, F, ρ, dk, d, ρ', dk', R, e, q⟩ := h
    unfold eRevS at e
    obtain ⟨⟨x, ρ1, k1⟩, ea, e⟩ := Option.bind_eq_some_iff.mp e
    obtain ⟨ds, ed, e⟩ := Option.map_eq_some_iff.mp e
    cases e
    refine ⟨S, F, ρ, dk, _, _, _, R, ea, fun v H1 S1 l1 R1 rv => ?_⟩
    obtain ⟨a, vs, rfl, ha, rvs⟩ := R1.lists rv ed
    refine ⟨a, vs, rfl, .inl ⟨.inl (.inl ha), fun p hp => ?_⟩⟩
    have gr := Grow.add (o := .lst vs.reverse) R1.sh hp
    exact q _ _ _ (l1.trans gr.le) (R1.grow gr) (.lst Sx.add_at (rvs.rev.mono gr.le))
end WS
namespace WS
open PySem PySem.Spec PyProof.Rows L2
def F_deck2 : Fn := fun ds k => match ds, k with
  | [.rdl xs], none => (intsOf xs).map fun ns => (.deck, some (ns.take 63, 0, (ns.take 63).sum % 2147483629 + ((ns.take 63).length : Int), []))
  | _, _ => none
def F_draw2 : Fn := fun ds k => match ds, k with
  | [.deck, .int m], some (cells, at_, sum, st) => if 0 < m ∧ m < 1073741824 ∧ 0 ≤ at_ ∧ at_ < 2 ^ 62 ∧ cells.length ≤ 1000 then
      match cells with
      | [] => some (.int (figure (sum + 104729 * (at_ + 1)) (at_ + 1) m), some ([], at_ + 1, sum, st))
      | c :: r => if 10 ^ 18 ≤ c then some (.int (c % m), some (c / m :: r, at_ + 1, sum, st)) else some (.int (figure c (at_ + 1) m), some (r, at_ + 1, sum, st))
    else none
  | _, _ => none
end WS
namespace W30
open PySem PySem.Spec PyProof.Rows L2 WS WO
noncomputable section
def body_is_step : SS := sSeq (sRet (eAnd (eApp gIsI (aCons (eVar 0) (aCons (eC (.ty "int")) (aNil)))) (eAnd (eNot (eApp gIsI (aCons (eVar 0) (aCons (eC (.ty "bool")) (aNil))))) (eOp gGe (eVar 0) (eC (.int 0))))))
 (sNil)
def F_is_step : Fn := runS 1 body_is_step
def body_is_within : SS := sSeq (sPar2 2 3 (aCons (eOp gIx (eVar 0) (eC (.int 3))) (aCons (eOp gIx (eVar 0) (eC (.int 4))) (aNil))))
 (sSeq (sRet (eAnd (eOp gLeE (eVar 2) (eVar 1)) (eOr (eOp gIs (eVar 3) (eC .non)) (eOp gLeE (eVar 1) (eVar 3)))))
 (sNil))
def F_is_within : Fn := runS 4 body_is_within
def body_held_holds : SS := sSeq (sIf (eOr (eNot (eApp gIsI (aCons (eVar 2) (aCons (eC (.ty "tuple")) (aNil))))) (eOr (eOp gNeE (eApp gLen (aCons (eVar 2) (aNil))) (eApp gLen (aCons (eVar 1) (aNil)))) (eNot (eApp gAll (aCons (eComp (iSrc (eVar 2)) [3] (gSet 3) (eC (.bl true)) (eCallF 1 W30.F_is_step (aCons (eVar 3) (aNil)))) (aNil)))))) (sSeq (sRet (eC (.bl false)))
 (sNil)) (sNil))
 (sSeq (sIf (eNot (eApp gAll (aCons (eComp (iApp gZipS (aCons (eVar 1) (aCons (eVar 2) (aNil)))) [5, 6] (gPair (gSet 5) (gSet 6)) (eC (.bl true)) (eCallF 2 W30.F_is_within (aCons (eOp gIx (eVar 0) (eVar 5)) (aCons (eVar 6) (aNil))))) (aNil)))) (sSeq (sRet (eC (.bl false)))
 (sNil)) (sNil))
 (sSeq (sRet (eApp gAll (aCons (eComp (iApp gZipG (aCons (eSl (eVar 2) oNone (oSome (eUn gNeg (eC (.int 1))))) (aCons (eSl (eVar 2) (oSome (eC (.int 1))) oNone) (aNil)))) [3, 4] (gPair (gSet 3) (gSet 4)) (eC (.bl true)) (eOp gLeE (eVar 3) (eVar 4))) (aNil))))
 (sNil)))
def F_held_holds : Fn := runS 7 body_held_holds
def body__law_pick : SS := sSeq (sRet (eOp gIx (eVar 1) (eCallF 2 WS.F_draw2 (aCons (eVar 0) (aCons (eApp gLen (aCons (eVar 1) (aNil))) (aNil))))))
 (sNil)
def F__law_pick : Fn := runS 2 body__law_pick
def body__law_specs : SS := sSeq (sRet (eApp gLstD (aCons (eC (.str "count")) (aCons (eC (.str "set")) (aCons (eC (.str "queue")) (aCons (eC (.str "stack")) (aCons (eC (.str "map")) (aNil))))))))
 (sNil)
def F__law_specs : Fn := runS 0 body__law_specs
def body__law_first : SS := sSeq (sRet (eOp gIx (eApp gLstD (aCons (eApp gTupD (aNil)) (aCons (eC (.int 0)) (aNil)))) (eApp gInt (aCons (eOp gEqE (eVar 0) (eC (.str "count"))) (aNil)))))
 (sNil)
def F__law_first : Fn := runS 1 body__law_first
def body__law_deed : SS := sSeq (sAsg (gSet 2) (eCallF 2 W30.F__law_pick (aCons (eVar 0) (aCons (eApp gLstD (aCons (eC (.int 1)) (aCons (eC (.int 2)) (aCons (eC (.int 3)) (aCons (eC (.int 999)) (aNil)))))) (aNil)))))
 (sSeq (sAsg (gSet 3) (eCallF 2 W30.F__law_pick (aCons (eVar 0) (aCons (eApp gLstD (aCons (eC (.int 1)) (aCons (eC (.int 2)) (aCons (eC (.int 5)) (aCons (eC (.int 999)) (aNil)))))) (aNil)))))
 (sSeq (sOwnD 4 [.inr "count", .inr "set", .inr "queue"] (aCons (eApp gLstD (aCons (eC (.str "up")) (aCons (eC (.str "look")) (aNil)))) (aCons (eApp gLstD (aCons (eC (.str "add")) (aCons (eC (.str "drop")) (aCons (eC (.str "has")) (aNil))))) (aCons (eApp gLstD (aCons (eC (.str "put")) (aCons (eC (.str "take")) (aNil)))) (aNil)))))
 (sSeq (sUpd 4 (eDisp [.inr "stack", .inr "map"] (aCons (eApp gLstD (aCons (eC (.str "push")) (aCons (eC (.str "pop")) (aNil)))) (aCons (eApp gLstD (aCons (eC (.str "add")) (aCons (eC (.str "drop")) (aCons (eC (.str "get")) (aNil))))) (aNil)))))
 (sSeq (sAsg (gSet 5) (eCallF 2 W30.F__law_pick (aCons (eVar 0) (aCons (eOGet 4 (eVar 1)) (aNil)))))
 (sSeq (sIf (eOp gIn (eVar 5) (eApp gTupD (aCons (eC (.str "up")) (aCons (eC (.str "look")) (aCons (eC (.str "take")) (aCons (eC (.str "pop")) (aNil))))))) (sSeq (sRet (eApp gTupD (aCons (eVar 5) (aNil))))
 (sNil)) (sNil))
 (sSeq (sIf (eOp gEqE (eVar 1) (eC (.str "map"))) (sSeq (sRet (eOp gAddB (eApp gTupD (aCons (eVar 5) (aCons (eOp gMod (eVar 2) (eC (.int 64))) (aNil)))) (eOp gMulB (eApp gTupD (aCons (eVar 3) (aNil))) (eApp gInt (aCons (eOp gEqE (eVar 5) (eC (.str "add"))) (aNil))))))
 (sNil)) (sNil))
 (sSeq (sRet (eApp gTupD (aCons (eVar 5) (aCons (eOp gIx (eApp gLstD (aCons (eVar 2) (aCons (eVar 3) (aNil)))) (eApp gInt (aCons (eOp gNeE (eVar 1) (eC (.str "set"))) (aNil)))) (aNil)))))
 (sNil))))))))
def F__law_deed : Fn := runS 6 body__law_deed
def body__law_ways : SS := sSeq (sAsg (gSet 3) (eOp gIx (eVar 2) (eC (.int 0))))
 (sSeq (sIf (eOp gEqE (eVar 0) (eC (.str "count"))) (sSeq (sRet (eApp gLstD (aCons (eOp gMulB (eApp gTupD (aCons (eOp gAddB (eVar 1) (eApp gInt (aCons (eOp gEqE (eVar 3) (eC (.str "up"))) (aNil)))) (aNil))) (eC (.int 2))) (aNil))))
 (sNil)) (sNil))
 (sSeq (sIf (eOp gIn (eVar 3) (eApp gTupD (aCons (eC (.str "take")) (aCons (eC (.str "pop")) (aNil))))) (sSeq (sRet (eIf (eOp gNeE (eVar 1) (eApp gTupD (aNil))) (eApp gLstD (aCons (eApp gTupD (aCons (eOp gIx (eVar 1) (eC (.int 0))) (aCons (eSl (eVar 1) (oSome (eC (.int 1))) oNone) (aNil)))) (aNil))) (eApp gLstD (aCons (eApp gTupD (aCons (eC (.int 0)) (aCons (eVar 1) (aNil)))) (aNil)))))
 (sNil)) (sNil))
 (sSeq (sIf (eOp gIn (eVar 3) (eApp gTupD (aCons (eC (.str "put")) (aCons (eC (.str "push")) (aNil))))) (sSeq (sRet (eApp gLstD (aCons (eApp gTupD (aCons (eC (.int 1)) (aCons (eOp gIx (eApp gLstD (aCons (eOp gAddB (eVar 1) (eSl (eVar 2) (oSome (eC (.int 1))) oNone)) (aCons (eOp gAddB (eSl (eVar 2) (oSome (eC (.int 1))) oNone) (eVar 1)) (aNil)))) (eApp gInt (aCons (eOp gEqE (eVar 3) (eC (.str "push"))) (aNil)))) (aNil)))) (aCons (eApp gTupD (aCons (eC (.int 2)) (aCons (eVar 1) (aNil)))) (aNil)))))
 (sNil)) (sNil))
 (sSeq (sAsg (gSet 4) (eOp gIx (eVar 2) (eC (.int 1))))
 (sSeq (sAsg (gSet 5) (eDictPN (eComp (iSrc (eVar 1)) [7] (gSet 7) (eC (.bl true)) (eIf (eOp gEqE (eVar 0) (eC (.str "map"))) (eVar 7) (eApp gTupD (aCons (eVar 7) (aCons (eC (.int 1)) (aNil))))))))
 (sSeq (sAsg (gSet 6) (eGet2S (eVar 5) (eVar 4) (eC (.int 0))))
 (sSeq (sIf (eOp gIn (eVar 3) (eApp gTupD (aCons (eC (.str "has")) (aCons (eC (.str "get")) (aNil))))) (sSeq (sRet (eApp gLstD (aCons (eApp gTupD (aCons (eVar 6) (aCons (eVar 1) (aNil)))) (aNil))))
 (sNil)) (sNil))
 (sSeq (sIf (eOp gEqE (eVar 3) (eC (.str "drop"))) (sSeq (sRet (eApp gLstD (aCons (eApp gTupD (aCons (eVar 6) (aCons (eApp gTuple (aCons (eComp (iSrc (eVar 1)) [7] (gSet 7) (eAnd (eOp gNeE (eVar 7) (eVar 4)) (eOp gNeE (eVar 7) (eApp gTupD (aCons (eVar 4) (aCons (eVar 6) (aNil)))))) (eVar 7)) (aNil))) (aNil)))) (aNil))))
 (sNil)) (sNil))
 (sSeq (sIf (eOp gGt (eVar 6) (eC (.int 0))) (sSeq (sRet (eApp gLstD (aCons (eApp gTupD (aCons (eC (.int 0)) (aCons (eVar 1) (aNil)))) (aCons (eApp gTupD (aCons (eC (.int 2)) (aCons (eVar 1) (aNil)))) (aNil)))))
 (sNil)) (sNil))
 (sSeq (sRet (eApp gLstD (aCons (eApp gTupD (aCons (eC (.int 1)) (aCons (eApp gTuple (aCons (eApp gSortedE (aCons (eOp gAddB (eVar 1) (eApp gTupD (aCons (eOp gIx (eApp gLstD (aCons (eVar 4) (aCons (eSl (eVar 2) (oSome (eC (.int 1))) oNone) (aNil)))) (eApp gInt (aCons (eOp gEqE (eVar 0) (eC (.str "map"))) (aNil)))) (aNil)))) (aNil))) (aNil))) (aNil)))) (aCons (eApp gTupD (aCons (eC (.int 2)) (aCons (eVar 1) (aNil)))) (aNil)))))
 (sNil)))))))))))
def F__law_ways : Fn := runS 8 body__law_ways
def L1__law_history : SS := sSeq (sPar2 12 13 (aCons (eCallF 2 WS.F_draw2 (aCons (eVar 0) (aCons (eVar 2) (aNil)))) (aCons (eCallF 2 WS.F_draw2 (aCons (eVar 0) (aCons (eC (.int 6)) (aNil)))) (aNil))))
 (sSeq (sIf (eAnd (eInS true (eVar 12) (eVar 5)) (eAnd (eOp gLt (eAppS 1 gLen (aCons (eVar 4) (aNil))) (eVar 3)) (eOp gLt (eOp gCountI (eCompG (srcL (eVar 4)) [15] (gSet 15) (eC (.bl true)) (eOpS 1 gIx (eVar 15) (eC (.int 0)))) (eVar 12)) (eC (.int 12))))) (sSeq (sSetDS (eVar 5) (eVar 12) (eAppS 1 gLen (aCons (eVar 4) (aNil))))
 (sSeq (sDrop (eMtS mAppend (eVar 4) (aCons (eNewL (aCons (eVar 12) (aCons (eCallF 2 W30.F__law_deed (aCons (eVar 0) (aCons (eVar 1) (aNil)))) (aCons (eC .non) (aCons (eVar 9) (aCons (eC .non) (aNil))))))) (aNil))))
 (sSeq (sAsg (gSet 9) (eOp gAddB (eVar 9) (eOp gMul (eApp gInt (aCons (eOp gGt (eVar 13) (eC (.int 0))) (aNil))) (eOp gAddB (eC (.int 1)) (eCallF 2 WS.F_draw2 (aCons (eVar 0) (aCons (eVar 10) (aNil))))))))
 (sNil)))) (sSeq (sIf (eAnd (eInS false (eVar 12) (eVar 5)) (eInS true (eVar 12) (eVar 6))) (sSeq (sAsg (gSet 13) (eC (.int 2)))
 (sNil)) (sNil))
 (sNil)))
 (sSeq (sIf (eAnd (eInS false (eVar 12) (eVar 5)) (eAnd (eInS true (eVar 12) (eVar 6)) (eOp gIn (eVar 13) (eApp gTupD (aCons (eC (.int 0)) (aCons (eC (.int 2)) (aNil))))))) (sSeq (sAsg (gSet 14) (eCallF 3 W30.F__law_ways (aCons (eVar 1) (aCons (eVar 8) (aCons (eOpS 1 gIx (eOpS 1 gIx (eVar 4) (eOpS 1 gGet (eVar 5) (eVar 12))) (eC (.int 1))) (aNil))))))
 (sSeq (sAsgS (kTup (kCons (kDS (eVar 6) (eVar 12)) (kCons (kSet 8) (kNil)))) (eIf (eOp gEqE (eCallF 2 WS.F_draw2 (aCons (eVar 0) (aCons (eC (.int 8)) (aNil)))) (eC (.int 0))) (eOp gIx (eVar 14) (eUn gNeg (eC (.int 1)))) (eOp gIx (eVar 14) (eC (.int 0)))))
 (sSeq (sDrop (eMtS mAppend (eVar 7) (aCons (eOpS 1 gGet (eVar 5) (eVar 12)) (aNil))))
 (sSeq (sAsg (gSet 13) (eOp gIx (eApp gLstD (aCons (eVar 13) (aCons (eC (.int 6)) (aNil)))) (eApp gInt (aCons (eOp gEqE (eVar 13) (eC (.int 2))) (aNil)))))
 (sNil))))) (sNil))
 (sSeq (sIf (eAnd (eInS false (eVar 12) (eVar 6)) (eOp gLt (eVar 13) (eC (.int 5)))) (sSeq (sSlS (eApp gLstD (aCons (eDPopS (eVar 6) (eVar 12)) (aCons (eOpS 1 gIx (eOpS 1 gIx (eVar 4) (eOpS 1 gGet (eVar 5) (eVar 12))) (eC (.int 3))) (aCons (eVar 9) (aNil))))) (eOpS 1 gIx (eVar 4) (eOpS 1 gGet (eVar 5) (eVar 12))) (eC (.int 2)))
 (sSeq (sDrop (eDPopS (eVar 5) (eVar 12)))
 (sSeq (sAsg (gSet 9) (eOp gAddB (eOp gAddB (eVar 9) (eC (.int 1))) (eCallF 2 WS.F_draw2 (aCons (eVar 0) (aCons (eVar 10) (aNil))))))
 (sNil)))) (sNil))
 (sNil))))
def body__law_history : SS := sSeq (sAsg (gSeqT [gSet 4, gSet 5, gSet 6, gSet 7]) (eApp gTupD (aCons (eNewL (aNil)) (aCons (eNewD0) (aCons (eNewD0) (aCons (eNewL (aNil)) (aNil)))))))
 (sSeq (sPar2 8 9 (aCons (eCallF 1 W30.F__law_first (aCons (eVar 1) (aNil))) (aCons (eCallF 2 WS.F_draw2 (aCons (eVar 0) (aCons (eC (.int 4)) (aNil)))) (aNil))))
 (sSeq (sAsg (gSet 10) (eCallF 2 W30.F__law_pick (aCons (eVar 0) (aCons (eApp gLstD (aCons (eC (.int 1)) (aCons (eC (.int 2)) (aCons (eC (.int 40)) (aNil))))) (aNil)))))
 (sSeq (sFor (iApp gRange1 (aCons (eOp gMul (eC (.int 5)) (eVar 3)) (aNil))) (gSet 11) (W30.L1__law_history))
 (sSeq (sRet (eApp gTupD (aCons (eApp gTuple (aCons (eCompG (srcL (eVar 4)) [15] (gSet 15) (eC (.bl true)) (eAppS 1 gTuple (aCons (eVar 15) (aNil)))) (aNil))) (aCons (eAppS 1 gTuple (aCons (eVar 7) (aNil))) (aNil)))))
 (sNil)))))
def F__law_history : Fn := runS 16 body__law_history
def body__law_whole : SS := sSeq (sRet (eAnd (eApp gIsI (aCons (eVar 0) (aCons (eC (.ty "int")) (aNil)))) (eNot (eApp gIsI (aCons (eVar 0) (aCons (eC (.ty "bool")) (aNil)))))))
 (sNil)
def F__law_whole : Fn := runS 1 body__law_whole
def body__law_odd : SS := sSeq (sAsg (gSet 2) (eApp gLstD (aCons (eC .non) (aCons (eC (.bl true)) (aCons (eC (.bl false)) (aCons (eC (.int 0)) (aCons (eC (.int 1)) (aCons (eUn gNeg (eC (.int 1))) (aCons (eOp gPow (eC (.int 10)) (eC (.int 39))) (aCons (eOp gSubB (eC (.int 0)) (eOp gPow (eC (.int 10)) (eC (.int 39)))) (aCons (eC (.str "")) (aCons (eC (.str "0")) (aCons (eApp gTupD (aNil)) (aCons (eApp gLstD (aNil)) (aCons (eC (.dct [] [])) (aCons (eApp gTupD (aCons (eC .non) (aNil))) (aCons (eApp gTupD (aCons (eApp gTupD (aNil)) (aNil))) (aCons (eApp gLstD (aCons (eVar 1) (aNil))) (aNil)))))))))))))))))))
 (sSeq (sRet (eCallF 2 W30.F__law_pick (aCons (eVar 0) (aCons (eOp gAddB (eVar 2) (eApp gLstD (aCons (eApp gTupD (aCons (eVar 1) (aNil))) (aCons (eDisp [.inl 0] (aCons (eVar 1) (aNil))) (aCons (eApp gTupD (aCons (eVar 1) (aCons (eVar 1) (aNil)))) (aCons (eApp gTupD (aCons (eApp gTupD (aCons (eApp gTupD (aCons (eApp gTupD (aCons (eC (.int 0)) (aNil))) (aNil))) (aNil))) (aNil))) (aNil))))))) (aNil)))))
 (sNil))
def F__law_odd : Fn := runS 3 body__law_odd
def L1__law_turned : SS := sSeq (sApp 3 (eMtS mPopAt (eVar 2) (aCons (eCallF 2 WS.F_draw2 (aCons (eVar 0) (aCons (eAppS 1 gLen (aCons (eVar 2) (aNil))) (aNil)))) (aNil))))
 (sNil)
def body__law_turned : SS := sSeq (sAsg (gSet 2) (eListN (eVar 1)))
 (sSeq (sOwnL 3 (aNil))
 (sSeq (sWhile 10000 (eOpS 1 gNeE (eVar 2) (eApp gLstD (aNil))) (W30.L1__law_turned))
 (sSeq (sRet (eVar 3))
 (sNil))))
def F__law_turned : Fn := runS 4 body__law_turned
def body__law_due : SS := sSeq (sIf (eOr (eNot (eApp gIsI (aCons (eVar 2) (aCons (eC (.ty "tuple")) (aNil))))) (eOp gNeE (eApp gLen (aCons (eVar 2) (aNil))) (eApp gLen (aCons (eVar 1) (aNil))))) (sSeq (sRet (eC (.bl false)))
 (sNil)) (sNil))
 (sSeq (sIf (eOp gNeE (eComp (iSrc (eVar 2)) [5] (gSet 5) (eNot (eCallF 1 W30.F__law_whole (aCons (eVar 5) (aNil)))) (eVar 5)) (eApp gLstD (aNil))) (sSeq (sRet (eC (.bl false)))
 (sNil)) (sNil))
 (sSeq (sIf (eOp gNeE (eApp gListT (aCons (eVar 2) (aNil))) (eApp gSortedE (aCons (eVar 2) (aNil)))) (sSeq (sRet (eC (.bl false)))
 (sNil)) (sNil))
 (sSeq (sAsg (gSet 3) (eComp (iSrc (eVar 1)) [4] (gSet 4) (eC (.bl true)) (eOp gIx (eVar 0) (eVar 4))))
 (sSeq (sRet (eOp gEqE (eComp (iApp gZipG (aCons (eVar 3) (aCons (eVar 2) (aNil)))) [6, 5] (gPair (gSet 6) (gSet 5)) (eOr (eOp gLt (eVar 5) (eOp gIx (eVar 6) (eC (.int 3)))) (eAnd (eOp gIsNot (eOp gIx (eVar 6) (eC (.int 4))) (eC .non)) (eOp gGt (eVar 5) (eOp gIx (eVar 6) (eC (.int 4)))))) (eC (.int 1))) (eApp gLstD (aNil))))
 (sNil)))))
def F__law_due : Fn := runS 7 body__law_due
def L1__law_latest : SS := sSeq (sAsg (gSet 6) (eOp gIx (eOp gIx (eVar 0) (eVar 5)) (eC (.int 4))))
 (sSeq (sAsg (gSet 4) (eIf (eOp gIs (eVar 6) (eC .non)) (eVar 4) (eApp gMin2 (aCons (eVar 4) (aCons (eVar 6) (aNil))))))
 (sSeq (sDrop (eMtS mAppend (eVar 3) (aCons (eVar 4) (aNil))))
 (sNil)))
def body__law_latest : SS := sSeq (sAsg (gSet 3) (eNewL (aNil)))
 (sSeq (sAsg (gSet 4) (eVar 2))
 (sSeq (sFor (iSrc (eUn gRev (eVar 1))) (gSet 5) (W30.L1__law_latest))
 (sSeq (sRet (eRevS (eVar 3)))
 (sNil))))
def F__law_latest : Fn := runS 7 body__law_latest
def L1__law_steps : SS := sSeq (sAsg (gSet 7) (eOp gAddB (eApp gMax2 (aCons (eVar 7) (aCons (eVar 8) (aNil)))) (eCallF 2 WS.F_draw2 (aCons (eVar 0) (aCons (eOp gAddB (eOp gSubB (eVar 9) (eApp gMax2 (aCons (eVar 7) (aCons (eVar 8) (aNil))))) (eC (.int 1))) (aNil))))))
 (sSeq (sDrop (eMtS mAppend (eVar 6) (aCons (eVar 7) (aNil))))
 (sNil))
def body__law_steps : SS := sSeq (sAsg (gSet 3) (eCallF 2 WS.F_draw2 (aCons (eVar 0) (aCons (eC (.int 3)) (aNil)))))
 (sSeq (sAsg (gSet 4) (eComp (iApp gRange1 (aCons (eApp gLen (aCons (eVar 2) (aNil))) (aNil))) [10] (gSet 10) (eC (.bl true)) (eApp gMaxL (aCons (eComp (iSrc (eSl (eVar 2) oNone (oSome (eOp gAddB (eVar 10) (eC (.int 1)))))) [11] (gSet 11) (eC (.bl true)) (eOp gIx (eOp gIx (eVar 1) (eVar 11)) (eC (.int 3)))) (aNil)))))
 (sSeq (sAsg (gSet 5) (eCallF 3 W30.F__law_latest (aCons (eVar 1) (aCons (eVar 2) (aCons (eC (.int 5000)) (aNil))))))
 (sSeq (sAsg (gSet 6) (eOp gIx (eApp gLstD (aCons (eVar 4) (aCons (eVar 5) (aCons (eNewL (aNil)) (aNil))))) (eVar 3)))
 (sSeq (sAsg (gSet 7) (eC (.int 0)))
 (sSeq (sFor (iSrc (eOp gMulB (eApp gListZ (aCons (eVar 4) (aCons (eVar 5) (aNil)))) (eApp gInt (aCons (eOp gEqE (eVar 3) (eC (.int 2))) (aNil))))) (gPair (gSet 8) (gSet 9)) (W30.L1__law_steps))
 (sSeq (sRet (eAppS 1 gTuple (aCons (eVar 6) (aNil))))
 (sNil)))))))
def F__law_steps : Fn := runS 12 body__law_steps
def body__law_spoilt : SS := sSeq (sAsg (gSet 4) (eCallF 2 WS.F_draw2 (aCons (eVar 0) (aCons (eC (.int 10)) (aNil)))))
 (sSeq (sIf (eOr (eOp gEqE (eVar 3) (eApp gTupD (aNil))) (eOp gEqE (eVar 4) (eC (.int 0)))) (sSeq (sRet (eCallF 2 W30.F__law_odd (aCons (eVar 0) (aCons (eVar 3) (aNil)))))
 (sNil)) (sNil))
 (sSeq (sAsg (gSet 5) (eCallF 2 WS.F_draw2 (aCons (eVar 0) (aCons (eApp gLen (aCons (eVar 3) (aNil))) (aNil)))))
 (sSeq (sAsg (gSet 6) (eOp gIx (eVar 1) (eOp gIx (eVar 2) (eVar 5))))
 (sSeq (sAsg (gSet 7) (eOp gIx (eVar 3) (eVar 5)))
 (sSeq (sAsg (gSet 8) (eApp gLstD (aCons (eOp gSubB (eVar 7) (eC (.int 1))) (aCons (eOp gAddB (eVar 7) (eC (.int 1))) (aCons (eOp gSubB (eOp gIx (eVar 6) (eC (.int 3))) (eC (.int 1))) (aCons (eOp gIx (eVar 6) (eC (.int 3))) (aCons (eOp gPow (eC (.int 10)) (eC (.int 39))) (aCons (eUn gNeg (eC (.int 1))) (aCons (eOp gEqE (eVar 7) (eC (.int 1))) (aCons (eCallF 2 W30.F__law_odd (aCons (eVar 0) (aCons (eVar 7) (aNil)))) (aNil)))))))))))
 (sSeq (sAsg (gSet 8) (eOp gAddB (eVar 8) (eApp gLstD (aCons (eIf (eOp gIs (eOp gIx (eVar 6) (eC (.int 4))) (eC .non)) (eVar 7) (eOp gAddB (eOp gIx (eVar 6) (eC (.int 4))) (eC (.int 1)))) (aNil)))))
 (sSeq (sIf (eOp gLt (eVar 4) (eC (.int 6))) (sSeq (sRet (eOp gAddB (eOp gAddB (eSl (eVar 3) oNone (oSome (eVar 5))) (eApp gTupD (aCons (eCallF 2 W30.F__law_pick (aCons (eVar 0) (aCons (eVar 8) (aNil)))) (aNil)))) (eSl (eVar 3) (oSome (eOp gAddB (eVar 5) (eC (.int 1)))) oNone)))
 (sNil)) (sNil))
 (sSeq (sRet (eOp gIx (eApp gLstD (aCons (eOp gAddB (eSl (eVar 3) oNone (oSome (eVar 5))) (eSl (eVar 3) (oSome (eOp gAddB (eVar 5) (eC (.int 1)))) oNone)) (aCons (eOp gAddB (eSl (eVar 3) oNone (oSome (eOp gAddB (eVar 5) (eC (.int 1))))) (eSl (eVar 3) (oSome (eVar 5)) oNone)) (aCons (eApp gListT (aCons (eVar 3) (aNil))) (aCons (eUn gRev (eVar 3)) (aNil)))))) (eOp gSubB (eVar 4) (eC (.int 6)))))
 (sNil)))))))))
def F__law_spoilt : Fn := runS 9 body__law_spoilt
def L1_law : SS := sSeq (sAsg (gSet 11) (eApp gRepr (aCons (eApp gTupD (aCons (eVar 4) (aCons (eVar 7) (aCons (eVar 10) (aNil))))) (aNil))))
 (sSeq (sIf (eOp gNeE (eApp gRepr (aCons (eCallF 3 W30.F_held_holds (aCons (eVar 4) (aCons (eVar 7) (aCons (eVar 10) (aNil))))) (aNil))) (eApp gRepr (aCons (eCallF 3 W30.F__law_due (aCons (eVar 4) (aCons (eVar 7) (aCons (eVar 10) (aNil))))) (aNil)))) (sSeq (sRet (eC (.bl false)))
 (sNil)) (sNil))
 (sSeq (sIf (eOp gNeE (eApp gRepr (aCons (eApp gTupD (aCons (eVar 4) (aCons (eVar 7) (aCons (eVar 10) (aNil))))) (aNil))) (eVar 11)) (sSeq (sRet (eC (.bl false)))
 (sNil)) (sNil))
 (sNil)))
def L2_law : SS := sSeq (sAsg (gSet 3) (eCallF 2 W30.F__law_pick (aCons (eVar 1) (aCons (eCallF 0 W30.F__law_specs aNil) (aNil)))))
 (sSeq (sAsg (gPair (gSet 4) (gSet 5)) (eCallF 4 W30.F__law_history (aCons (eVar 1) (aCons (eVar 3) (aCons (eOp gAddB (eC (.int 1)) (eCallF 2 WS.F_draw2 (aCons (eVar 1) (aCons (eC (.int 4)) (aNil))))) (aCons (eOp gAddB (eC (.int 1)) (eCallF 2 WS.F_draw2 (aCons (eVar 1) (aCons (eC (.int 10)) (aNil))))) (aNil)))))))
 (sSeq (sAsg (gSet 6) (eComp (iApp gRange1 (aCons (eApp gLen (aCons (eVar 4) (aNil))) (aNil))) [12] (gSet 12) (eOp gNotIn (eVar 12) (eVar 5)) (eVar 12)))
 (sSeq (sAsg (gSet 7) (eOp gAddB (eVar 5) (eOp gMulB (eApp gTuple (aCons (eCallF 2 W30.F__law_turned (aCons (eVar 1) (aCons (eVar 6) (aNil)))) (aNil))) (eCallF 2 WS.F_draw2 (aCons (eVar 1) (aCons (eC (.int 2)) (aNil)))))))
 (sSeq (sAsg (gSet 8) (eCallF 3 W30.F__law_steps (aCons (eVar 1) (aCons (eVar 4) (aCons (eVar 7) (aNil))))))
 (sSeq (sIf (eOp gIsNot (eCallF 3 W30.F_held_holds (aCons (eVar 4) (aCons (eVar 7) (aCons (eVar 8) (aNil))))) (eC (.bl true))) (sSeq (sRet (eC (.bl false)))
 (sNil)) (sNil))
 (sSeq (sAsg (gSet 9) (eComp (iApp gRange1 (aCons (eC (.int 10)) (aNil))) [12] (gSet 12) (eC (.bl true)) (eCallF 4 W30.F__law_spoilt (aCons (eVar 1) (aCons (eVar 4) (aCons (eVar 7) (aCons (eVar 8) (aNil))))))))
 (sSeq (sFor (iSrc (eOp gAddB (eOp gAddB (eVar 9) (eApp gLstD (aCons (eVar 8) (aNil)))) (eSl (eVar 9) oNone (oSome (eC (.int 3)))))) (gSet 10) (W30.L1_law))
 (sNil))))))))
def body_law : SS := sSeq (sAsg (gSet 1) (eCallF 1 WS.F_deck2 (aCons (eVar 0) (aNil))))
 (sSeq (sFor (iApp gRange1 (aCons (eC (.int 3)) (aNil))) (gSet 2) (W30.L2_law))
 (sSeq (sRet (eC (.bl true)))
 (sNil)))
def F_law : Fn := runS 13 body_law
end
end W30
namespace W30
open PySem PySem.Spec PyProof.Rows L2 WS WO
def topS (i : Nat) : Stmt := PySem.Challenge.pw_weavesafe_k30_steps_of_any_hand.main.body.getD i (.Pass ⟨0, 0, 0, 0⟩)
structure Fx (P : Program) (w : World) (K : PySem.W.Frag) (mg : Str → Option Value) : Prop where
  f_is_step : Df K mg "is_step" (topS 1)
  f_is_within : Df K mg "is_within" (topS 2)
  f_held_holds : Df K mg "held_holds" (topS 3)
  f__law_deck : Df K mg "_law_deck" (topS 5)
  f__law_draw : Df K mg "_law_draw" (topS 6)
  f__law_pick : Df K mg "_law_pick" (topS 7)
  f__law_specs : Df K mg "_law_specs" (topS 8)
  f__law_first : Df K mg "_law_first" (topS 9)
  f__law_deed : Df K mg "_law_deed" (topS 10)
  f__law_ways : Df K mg "_law_ways" (topS 11)
  f__law_history : Df K mg "_law_history" (topS 12)
  f__law_whole : Df K mg "_law_whole" (topS 14)
  f__law_odd : Df K mg "_law_odd" (topS 15)
  f__law_turned : Df K mg "_law_turned" (topS 16)
  f__law_due : Df K mg "_law_due" (topS 17)
  f__law_latest : Df K mg "_law_latest" (topS 18)
  f__law_steps : Df K mg "_law_steps" (topS 19)
  f__law_spoilt : Df K mg "_law_spoilt" (topS 20)
  f_law : Df K mg "law" (topS 21)
  b_all : mg "all" = none
  b_bool : mg "bool" = none
  b_dict : mg "dict" = none
  b_int : mg "int" = none
  b_isinstance : mg "isinstance" = none
  b_len : mg "len" = none
  b_list : mg "list" = none
  b_max : mg "max" = none
  b_min : mg "min" = none
  b_range : mg "range" = none
  b_repr : mg "repr" = none
  b_sorted : mg "sorted" = none
  b_sum : mg "sum" = none
  b_tuple : mg "tuple" = none
  b_zip : mg "zip" = none
section
variable {P : Program} {w : World} {K : PySem.W.Frag} {mg : Str → Option Value} {base : Heap}
abbrev sDraw : Stmt := topS 6
theorem scDraw : FnScope ["_law_deck_here", "_law_most", "_law_at", "_law_cells", "_law_seed", "_law_number"] ["_law_deck_here", "_law_most"] (defScope sDraw) := ⟨rfl, rfl, rfl, by decide +kernel, rfl, by decide +kernel, by decide +kernel⟩
theorem ok_draw {f : Addr} {fd : FuncData} (Fu : Fun K "_law_draw" "_law_draw" sDraw f fd) : FnG P w K mg base CX0 1 f fd ["_law_deck_here", "_law_most"] (spS K 2 F_draw2) := by
  refine fnG0 Fu scDraw (fun vs H Q E h => h.1) fun cdv A outer s H vs Q E hg hr h => ?_
  obtain ⟨hl, S, F, ds, dk, d, dk', R, rv, e, q⟩ := h
  have hu := hu_of hr
  have nd := scDraw.nd
  refine ⟨_, pss_cons (ps_dput hu (pv 0) pe_str (pe_op op_add (pe_dget hu (pv 0) pe_str (fun _ _ => rfl)) pe_int) rfl)
    (pss_cons (ps_set (i := 2) nd rfl (.inl rfl) (pe_dget hu (pv 0) pe_str (fun _ _ => rfl)))
    (pss_cons (ps_set (i := 3) nd rfl (.inl rfl) (pe_dget hu (pv 0) pe_str (fun _ _ => rfl)))
    (pss_cons (ps_set (i := 4) nd rfl (.inl rfl) (pe_op op_add (pe_dget hu (pv 0) pe_str (fun _ _ => rfl)) (pe_op op_mul pe_int (pv 2))))
    (pss_cons (ps_if (pt_cmpR (op_neD hr.units) (pv 3) (pe_lst pa_nil) (nomark _))
      (pss_cons (ps_set (i := 4) nd rfl (.inl rfl) (pe_bm PySem.F.plainAttrs_list PySem.F.slot_list_pop PySem.F.type_list_pop mt_popAt (pv 3) (pa_cons pe_int pa_nil)))
        (pss_one (ps_if (pt_cmpR op_ge (pv 4) (pe_op op_pow pe_int pe_int) (nomark _))
          (pss_cons (ps_expr (pe_bm PySem.F.plainAttrs_list PySem.F.slot_list_insert PySem.F.type_list_insert mt_insert (pv 3) (pa_cons pe_int (pa_cons (pe_op op_fdiv (pv 4) (pv 1)) pa_nil))))
            (pss_one (ps_ret (pe_op op_mod (pv 4) (pv 1))))) pss_nil))) pss_nil)
    (pss_cons (ps_set (i := 5) nd rfl (.inl rfl) (pe_op op_mod (pe_op op_add (pe_op op_add (pe_op op_mul (pe_op op_mod (pv 4) pe_int) pe_int) (pe_op op_mul (pe_op op_mul pe_int (pv 2)) (pv 2))) pe_int) pe_int))
    (pss_cons (ps_set (i := 5) nd rfl (.inl rfl) (pe_op op_mod (pe_op op_mul (pv 5) (pv 5)) pe_int))
    (pss_one (ps_ret (pe_op op_mod (pe_op op_fdiv (pe_op op_mod (pe_op op_mul (pv 5) (pe_op op_add (pv 5) pe_int)) pe_int) pe_int) (pv 1)))))))))), ?_⟩
  unfold F_draw2 at e
  split at e
  case h_2 => cases e
  rename_i m cells at_ sum st
  split at e
  case isFalse => cases e
  rename_i hcond
  obtain ⟨hm0, hm1, ha0, ha1, hlen⟩ := hcond
  obtain ⟨v1, v2, rfl, r1, r2⟩ := two_of rv
  cases r2
  cases r1
  rename_i a hda
  obtain ⟨a2, c, e1, ha, hc, e4, e5, e6, e7, _, _, _⟩ := id R.dka
  rw [hda] at e1; cases e1
  have nca : c ≠ a := fun z => by rw [z, ha] at hc; cases hc
  -- deck['at'] = deck['at'] + 1
  refine ⟨.ref a, rfl, a, .int at_, rfl, dg_at ha, at_, 1, rfl, rfl, .ref a, rfl, a, _, rfl, dp_at ha, ?_⟩
  have hA : (upd H a (.dK [(kCells, .ref c), (kAt, .int (at_ + 1)), (kSum, .int sum)])) a = some (.dK [(kCells, .ref c), (kAt, .int (at_ + 1)), (kSum, .int sum)]) := upd_same
  have hC : (upd H a (.dK [(kCells, .ref c), (kAt, .int (at_ + 1)), (kSum, .int sum)])) c = some (.lst (cells.map V.int)) := by rw [upd_ne nca]; exact hc
  have off : ∀ b o, H b = some o → b ≠ a → b ≠ c → (upd H a (.dK [(kCells, .ref c), (kAt, .int (at_ + 1)), (kSum, .int sum)])) b = some o := fun b o e z _ => by rw [upd_ne z]; exact e
  generalize (upd H a (.dK [(kCells, .ref c), (kAt, .int (at_ + 1)), (kSum, .int sum)])) = H1 at hA hC off ⊢
  -- at, cells, seed
  refine ⟨.ref a, rfl, a, .int (at_ + 1), rfl, dg_at hA, ?_⟩
  refine ⟨.ref a, rfl, a, .ref c, rfl, dg_cells hA, ?_⟩
  refine ⟨.ref a, rfl, a, .int sum, rfl, dg_sum hA, .int (at_ + 1), rfl, 104729, at_ + 1, rfl, rfl, .inl ⟨by decide, by decide⟩, sum, 104729 * (at_ + 1), rfl, rfl, ?_⟩
  -- if cells != []
  have back : ∀ (cells' : List Int) (H' : Hp), (∀ b o, H b = some o → b ≠ a → b ≠ c → H' b = some o) → H' a = some (.dK [(kCells, .ref c), (kAt, .int (at_ + 1)), (kSum, .int sum)]) → H' c = some (.lst (cells'.map V.int)) → ∀ i : Int, some (D.int i, some (cells', at_ + 1, sum, st)) = some (d, dk') → Q (.int i) H' := fun cells' H' o1 o2 o3 i ee => by
    cases ee
    exact q _ H' S (Le.refl S) (R.turnDk hda ha hc o1 o2 o3) (.int i)
  refine ⟨.ref c, rfl, Nat.zero_le _, fun p hp => ?_⟩
  have npc : p ≠ c := fun z => by rw [z, hC] at hp; cases hp
  have npa : p ≠ a := fun z => by rw [z, hA] at hp; cases hp
  have hC2 : (upd H1 p (.lst [])) c = some (.lst (cells.map V.int)) := by rw [upd_ne npc.symm]; exact hC
  have hA2 : (upd H1 p (.lst [])) a = some (.dK [(kCells, .ref c), (kAt, .int (at_ + 1)), (kSum, .int sum)]) := by rw [upd_ne npa.symm]; exact hA
  have hp0 : H p = none := by
    cases z : H p with
    | none => rfl
    | some o => rw [off p o z npa npc] at hp; cases hp
  have off2 : ∀ b o, H b = some o → b ≠ a → b ≠ c → (upd H1 p (.lst [])) b = some o := fun b o e z1 z2 => by rw [upd_ne (ne_of_none e hp0)]; exact off b o e z1 z2
  refine ⟨_, _, cells_dp (.inl (.inl hC2)), .lst (.inl (.inl upd_same)) .nil, ints_shaped cells, by decide, _, rfl, ?_⟩
  rw [ints_eqv]
  generalize (upd H1 p (.lst [])) = H2 at hC2 hA2 off2 ⊢
  clear hC hA off hp npc npa
  -- what is left behind the test
  have rest : ∀ (seed : Int) (cells' : List Int) (H' : Hp), (∀ b o, H b = some o → b ≠ a → b ≠ c → H' b = some o) → H' a = some (.dK [(kCells, .ref c), (kAt, .int (at_ + 1)), (kSum, .int sum)]) → H' c = some (.lst (cells'.map V.int)) →
      some (D.int (figure seed (at_ + 1) m), some (cells', at_ + 1, sum, st)) = some (d, dk') → Q (.int (figure seed (at_ + 1) m)) H' := fun seed cells' H' o1 o2 o3 ee => back cells' H' o1 o2 o3 _ ee
  cases cells with
  | nil =>
    refine iteF ?_
    refine ⟨.int (sum + 104729 * (at_ + 1)), rfl, _, 2147483647, rfl, rfl, (by show (0 : Int) < 2147483647; decide), _, 48271, rfl, rfl, .inr ⟨by decide, by decide⟩, .int (at_ + 1), rfl, 69621, at_ + 1, rfl, rfl, .inl ⟨by decide, by decide⟩, .int (at_ + 1), rfl, _, at_ + 1, rfl, rfl, .inr ⟨by omega, by omega⟩, _, _, rfl, rfl, _, 7919, rfl, rfl, _, 2147483629, rfl, rfl, (by show (0 : Int) < 2147483629; decide), ?_⟩
    have b1 := Int.emod_lt_of_pos (sum + 104729 * (at_ + 1) % 2147483647 * 48271 + 69621 * (at_ + 1) * (at_ + 1) + 7919) (show (0 : Int) < 2147483629 by decide)
    have b2 := Int.emod_nonneg (sum + 104729 * (at_ + 1) % 2147483647 * 48271 + 69621 * (at_ + 1) * (at_ + 1) + 7919) (show (2147483629 : Int) ≠ 0 by decide)
    refine ⟨_, rfl, _, rfl, _, _, rfl, rfl, .inl ⟨by omega, by omega⟩, _, 2147483587, rfl, rfl, (by show (0 : Int) < 2147483587; decide), ?_⟩
    have b3 := Int.emod_lt_of_pos ((sum + 104729 * (at_ + 1) % 2147483647 * 48271 + 69621 * (at_ + 1) * (at_ + 1) + 7919) % 2147483629 * ((sum + 104729 * (at_ + 1) % 2147483647 * 48271 + 69621 * (at_ + 1) * (at_ + 1) + 7919) % 2147483629)) (show (0 : Int) < 2147483587 by decide)
    have b4 := Int.emod_nonneg ((sum + 104729 * (at_ + 1) % 2147483647 * 48271 + 69621 * (at_ + 1) * (at_ + 1) + 7919) % 2147483629 * ((sum + 104729 * (at_ + 1) % 2147483647 * 48271 + 69621 * (at_ + 1) * (at_ + 1) + 7919) % 2147483629)) (show (2147483587 : Int) ≠ 0 by decide)
    refine ⟨_, rfl, _, rfl, _, 39373, rfl, rfl, _, _, rfl, rfl, .inl ⟨by omega, by omega⟩, _, 2147483563, rfl, rfl, (by show (0 : Int) < 2147483563; decide), _, 64, rfl, rfl, ⟨by decide, by decide⟩, .int m, rfl, _, m, rfl, rfl, hm0, ?_⟩
    exact rest (sum + 104729 * (at_ + 1)) [] H2 off2 hA2 hC2 e
  | cons x r =>
    replace e : (if (10 : Int) ^ 18 ≤ x then some (D.int (x % m), (some (x / m :: r, at_ + 1, sum, st) : Dk)) else some (D.int (figure x (at_ + 1) m), some (r, at_ + 1, sum, st))) = some (d, dk') := e
    refine iteT ?_
    refine ⟨.ref c, rfl, .inl ⟨rfl, _, .inl (.inl hC2)⟩, c, (x :: r).map V.int, 0, 0, .int x, rfl, rfl, hC2, by decide, by decide, ?_, rfl, ?_⟩
    · exact seq0 (by simp)
    have hC3 : (upd H2 c (.lst (((x :: r).map V.int).eraseIdx 0))) c = some (.lst (r.map V.int)) := upd_same
    have hA3 : (upd H2 c (.lst (((x :: r).map V.int).eraseIdx 0))) a = some (.dK [(kCells, .ref c), (kAt, .int (at_ + 1)), (kSum, .int sum)]) := by rw [upd_ne nca.symm]; exact hA2
    have off3 : ∀ b o, H b = some o → b ≠ a → b ≠ c → (upd H2 c (.lst (((x :: r).map V.int).eraseIdx 0))) b = some o := fun b o e z1 z2 => by rw [upd_ne z2]; exact off2 b o e z1 z2
    generalize (upd H2 c (.lst (((x :: r).map V.int).eraseIdx 0))) = H3 at hC3 hA3 off3 ⊢
    refine ⟨.int x, rfl, 10, 18, rfl, rfl, ⟨by decide, by decide, by decide⟩, x, _, rfl, rfl, _, rfl, ite2 (fun hx => ?_) (fun hx => ?_)⟩
    · have hx' : (10 : Int) ^ 18 ≤ x := of_decide_eq_true hx
      rw [if_pos hx'] at e
      refine ⟨.ref c, rfl, .inl ⟨rfl, _, .inl (.inl hC3)⟩, .int x, rfl, .int m, rfl, x, m, rfl, rfl, ⟨hm0, hm1⟩, c, _, 0, _, rfl, rfl, hC3, ?_, by decide, by decide, ?_⟩
      · rw [List.length_map]
        simp only [List.length_cons] at hlen
        exact Nat.lt_of_lt_of_le (show r.length < 100000 by omega) (by rw [sizeLine_eq]; decide)
      · refine ⟨.int x, rfl, .int m, rfl, x, m, rfl, rfl, hm0, ?_⟩
        exact back (x / m :: r) _ (fun b o e z1 z2 => by rw [upd_ne z2]; exact off3 b o e z1 z2) (by rw [upd_ne nca.symm]; exact hA3) upd_same _ e
    · have hx' : ¬ (10 : Int) ^ 18 ≤ x := fun z => hx (decide_eq_true z)
      rw [if_neg hx'] at e
      refine ⟨.int (x), rfl, _, 2147483647, rfl, rfl, (by show (0 : Int) < 2147483647; decide), _, 48271, rfl, rfl, .inr ⟨by decide, by decide⟩, .int (at_ + 1), rfl, 69621, at_ + 1, rfl, rfl, .inl ⟨by decide, by decide⟩, .int (at_ + 1), rfl, _, at_ + 1, rfl, rfl, .inr ⟨by omega, by omega⟩, _, _, rfl, rfl, _, 7919, rfl, rfl, _, 2147483629, rfl, rfl, (by show (0 : Int) < 2147483629; decide), ?_⟩
      have b1 := Int.emod_lt_of_pos (x % 2147483647 * 48271 + 69621 * (at_ + 1) * (at_ + 1) + 7919) (show (0 : Int) < 2147483629 by decide)
      have b2 := Int.emod_nonneg (x % 2147483647 * 48271 + 69621 * (at_ + 1) * (at_ + 1) + 7919) (show (2147483629 : Int) ≠ 0 by decide)
      refine ⟨_, rfl, _, rfl, _, _, rfl, rfl, .inl ⟨by omega, by omega⟩, _, 2147483587, rfl, rfl, (by show (0 : Int) < 2147483587; decide), ?_⟩
      have b3 := Int.emod_lt_of_pos ((x % 2147483647 * 48271 + 69621 * (at_ + 1) * (at_ + 1) + 7919) % 2147483629 * ((x % 2147483647 * 48271 + 69621 * (at_ + 1) * (at_ + 1) + 7919) % 2147483629)) (show (0 : Int) < 2147483587 by decide)
      have b4 := Int.emod_nonneg ((x % 2147483647 * 48271 + 69621 * (at_ + 1) * (at_ + 1) + 7919) % 2147483629 * ((x % 2147483647 * 48271 + 69621 * (at_ + 1) * (at_ + 1) + 7919) % 2147483629)) (show (2147483587 : Int) ≠ 0 by decide)
      refine ⟨_, rfl, _, rfl, _, 39373, rfl, rfl, _, _, rfl, rfl, .inl ⟨by omega, by omega⟩, _, 2147483563, rfl, rfl, (by show (0 : Int) < 2147483563; decide), _, 64, rfl, rfl, ⟨by decide, by decide⟩, .int m, rfl, _, m, rfl, rfl, hm0, ?_⟩
      exact rest (x) r H3 off3 hA3 hC3 e
abbrev sDeck : Stmt := topS 5
theorem scDeck : FnScope ["_law_script", "_law_cells"] ["_law_script"] (defScope sDeck) := ⟨rfl, rfl, rfl, by decide +kernel, rfl, by decide +kernel, by decide +kernel⟩
theorem ok_deck {f : Addr} {fd : FuncData} (Fu : Fun K "_law_deck" "_law_deck" sDeck f fd) (mList : mg "list" = none) (mSum : mg "sum" = none) (mLen : mg "len" = none) : FnG P w K mg base CX0 1 f fd ["_law_script"] (spS K 1 F_deck2) := by
  refine fnG0 Fu scDeck (fun vs H Q E h => h.1) fun cdv A outer s H vs Q E hg hr h => ?_
  obtain ⟨hl, S, F, ds, dk, d, dk', R, rv, e, q⟩ := h
  have hu := hu_of hr
  have nd := scDeck.nd
  refine ⟨_, pss_cons (ps_set (i := 1) nd rfl (.inl rfl) (pe_callTy call_list_of (by rfl) mList (by decide +kernel) (pa_cons (pe_slice sl_list (pv 0) po_none (po_some pe_int)) pa_nil)))
    (pss_one (ps_ret (pe_disp (pps_cons pe_str (pv 1) (pps_cons pe_str pe_int (pps_cons pe_str (pe_op op_add (pe_op op_mod (pe_callB (cr_sum rfl) (by rfl) mSum (by decide +kernel) (pa_cons (pv 1) pa_nil)) pe_int) (pe_callB call_len (by rfl) mLen (by decide +kernel) (pa_cons (pv 1) pa_nil))) pps_nil))) (by rfl) (by rfl) (fun z => by cases z) (by decide)))), ?_⟩
  unfold F_deck2 at e
  split at e
  case h_2 => cases e
  rename_i xs
  cases hi : intsOf xs with
  | none => rw [hi] at e; cases e
  | some ns =>
    rw [hi] at e
    simp only [Option.map_some] at e
    cases e
    obtain ⟨v, rfl, rv1⟩ := one_of rv
    cases rv1 with
    | rdl hs hr1 =>
      rename_i a vs
      have hvs := intsOf_vs hr1 hi
      subst hvs
      have hS : SqL K H a (ns.map V.int) := R.sh.sqL hs
      -- list(script[:63])
      refine ⟨.ref a, rfl, 63, rfl, a, _, rfl, hS, fun p1 n1 => ?_⟩
      refine ⟨p1, _, rfl, .inl (.inl (.inl upd_same)), fun p2 n2 => ?_⟩
      rw [cut63] at n2 ⊢
      have s1 : Sub H (upd H p1 (.lst ((ns.take 63).map V.int))) := Sub.new n1
      generalize (upd H p1 (.lst ((ns.take 63).map V.int))) = H1 at n2 s1 ⊢
      have s2 : Sub H1 (upd H1 p2 (.lst ((ns.take 63).map V.int))) := Sub.new n2
      have h2 : (upd H1 p2 (.lst ((ns.take 63).map V.int))) p2 = some (.lst ((ns.take 63).map V.int)) := upd_same
      generalize (upd H1 p2 (.lst ((ns.take 63).map V.int))) = H2 at h2 s2 ⊢
      -- the dict
      intro p3 n3
      have n32 : p2 ≠ p3 := ne_of_none h2 n3
      have h23 : (upd H2 p3 (.dK [])) p2 = some (.lst ((ns.take 63).map V.int)) := by rw [upd_ne n32]; exact h2
      refine ⟨.ref p2, rfl, .ref p2, rfl, p2, ns.take 63, rfl, .inl (.inl h23), (ns.take 63).sum, 2147483629, rfl, rfl, (by show (0 : Int) < 2147483629; decide), .ref p2, rfl, .ref p2, _, rfl, .inl ⟨_, .inl (.inl h23), rfl⟩, _, _, rfl, rfl, upd_same, [(kCells, .ref p2), (kAt, .int 0), (kSum, .int ((ns.take 63).sum % 2147483629 + (((ns.take 63).map V.int).length : Int)))], rfl, (by show 3 ≤ 15; decide), ?_⟩
      rw [dk_merge, List.length_map]
      have nH3 : H p3 = none := (s1.trans s2).none n3
      refine q _ _ ⟨S.hp, some p3, []⟩ ⟨Sub.refl _, fun a z => ?_, fun n a z => by rw [R.dka.2] at z; exact z⟩ (R.newDk (c := p2) (fun b o z => ?_) nH3 (s1.none n2) upd_same ?_) (.deck rfl)
      · have := R.dka
        rw [show S.da = none from this.1] at z; cases z
      · rw [upd_ne (ne_of_none z nH3), upd_ne (ne_of_none z nH3)]
        exact s2 _ _ (s1 _ _ z)
      · rw [upd_ne n32]; exact h23
theorem ok__law_draw (C : Fx P w K mg) : Cw P w K mg base 1 "_law_draw" 2 F_draw2 := by
  obtain ⟨f, fd, Fu, m⟩ := C.f__law_draw
  exact ⟨f, fd, _, ok_draw Fu, m, Fu.kp, Fu.binds (fun _ _ _ _ _ _ us hl => match us, hl with | [_, _], _ => rfl)⟩
theorem ok__law_deck (C : Fx P w K mg) : Cw P w K mg base 1 "_law_deck" 1 F_deck2 := by
  obtain ⟨f, fd, Fu, m⟩ := C.f__law_deck
  exact ⟨f, fd, _, ok_deck Fu C.b_list C.b_sum C.b_len, m, Fu.kp, Fu.binds (fun _ _ _ _ _ _ us hl => match us, hl with | [_], _ => rfl)⟩
abbrev s_is_step : Stmt := topS 1
theorem sc_is_step : FnScope ["thing"] ["thing"] (defScope s_is_step) := ⟨rfl, rfl, rfl, by decide +kernel, rfl, by decide +kernel, by decide +kernel⟩
theorem ok_is_step (C : Fx P w K mg) : Cw P w K mg base 1 "is_step" 1 W30.F_is_step :=
 cl_mk W30.body_is_step 1 1 C.f_is_step sc_is_step rfl rfl (by decide) (fun _ _ _ _ _ _ us hl => match us, hl with | [_], _ => rfl) (fun f cdv A outer s H E hgu hr => by
 have hu64 := hr.units
 have hu1 := hu_of hr
 have hu100 := hu100_of hr
 have hu65 := hu65_of hr
 have nd := sc_is_step.nd
 exact (s_cons (s_ret (d_and (d_callB x_isi (gl_of (by kernel_rfl!)) C.b_isinstance (by decide +kernel) (a_cons (d_var (i := 0) rfl (by first | exact Or.inl (by kernel_rfl!) | exact Or.inr (Or.inl (by kernel_rfl!)) | exact Or.inr (Or.inr (by kernel_rfl!)))) (a_cons (d_type (gl_of (by kernel_rfl!)) C.b_int (by decide +kernel)) a_nil))) (d_and (d_not (d_callB x_isi (gl_of (by kernel_rfl!)) C.b_isinstance (by decide +kernel) (a_cons (d_var (i := 0) rfl (by first | exact Or.inl (by kernel_rfl!) | exact Or.inr (Or.inl (by kernel_rfl!)) | exact Or.inr (Or.inr (by kernel_rfl!)))) (a_cons (d_type (gl_of (by kernel_rfl!)) C.b_bool (by decide +kernel)) a_nil)))) (d_one (d_cmp x_ge (d_var (i := 0) rfl (by first | exact Or.inl (by kernel_rfl!) | exact Or.inr (Or.inl (by kernel_rfl!)) | exact Or.inr (Or.inr (by kernel_rfl!)))) d_int (nomark _))))))
 s_nil))
abbrev s_is_within : Stmt := topS 2
theorem sc_is_within : FnScope ["row", "step", "begun", "ended"] ["row", "step"] (defScope s_is_within) := ⟨rfl, rfl, rfl, by decide +kernel, rfl, by decide +kernel, by decide +kernel⟩
theorem ok_is_within (C : Fx P w K mg) : Cw P w K mg base 1 "is_within" 2 W30.F_is_within :=
 cl_mk W30.body_is_within 2 4 C.f_is_within sc_is_within rfl rfl (by decide) (fun _ _ _ _ _ _ us hl => match us, hl with | [_, _], _ => rfl) (fun f cdv A outer s H E hgu hr => by
 have hu64 := hr.units
 have hu1 := hu_of hr
 have hu100 := hu100_of hr
 have hu65 := hu65_of hr
 have nd := sc_is_within.nd
 exact (s_cons (s_par2 rfl nd (a_cons (d_ix x_ix (d_var (i := 0) rfl (by first | exact Or.inl (by kernel_rfl!) | exact Or.inr (Or.inl (by kernel_rfl!)) | exact Or.inr (Or.inr (by kernel_rfl!)))) d_int (fun _ _ => rfl)) (a_cons (d_ix x_ix (d_var (i := 0) rfl (by first | exact Or.inl (by kernel_rfl!) | exact Or.inr (Or.inl (by kernel_rfl!)) | exact Or.inr (Or.inr (by kernel_rfl!)))) d_int (fun _ _ => rfl)) a_nil)) rfl rfl (by decide))
 (s_cons (s_ret (d_and (d_cmp x_leE (d_var (i := 2) rfl (by first | exact Or.inl (by kernel_rfl!) | exact Or.inr (Or.inl (by kernel_rfl!)) | exact Or.inr (Or.inr (by kernel_rfl!)))) (d_var (i := 1) rfl (by first | exact Or.inl (by kernel_rfl!) | exact Or.inr (Or.inl (by kernel_rfl!)) | exact Or.inr (Or.inr (by kernel_rfl!)))) (nomark _)) (d_one (d_or (d_cmp x_is (d_var (i := 3) rfl (by first | exact Or.inl (by kernel_rfl!) | exact Or.inr (Or.inl (by kernel_rfl!)) | exact Or.inr (Or.inr (by kernel_rfl!)))) d_non (nomark _)) (d_one (d_cmp x_leE (d_var (i := 1) rfl (by first | exact Or.inl (by kernel_rfl!) | exact Or.inr (Or.inl (by kernel_rfl!)) | exact Or.inr (Or.inr (by kernel_rfl!)))) (d_var (i := 3) rfl (by first | exact Or.inl (by kernel_rfl!) | exact Or.inr (Or.inl (by kernel_rfl!)) | exact Or.inr (Or.inr (by kernel_rfl!)))) (nomark _)))))))
 s_nil)))
abbrev s_held_holds : Stmt := topS 3
theorem sc_held_holds : FnScope ["history", "order", "thing", "one", "other", "number", "step"] ["history", "order", "thing"] (defScope s_held_holds) := ⟨rfl, rfl, rfl, by decide +kernel, rfl, by decide +kernel, by decide +kernel⟩
theorem ok_held_holds (C : Fx P w K mg) : Cw P w K mg base 2 "held_holds" 3 W30.F_held_holds :=
 cl_mk W30.body_held_holds 3 7 C.f_held_holds sc_held_holds rfl rfl (by decide) (fun _ _ _ _ _ _ us hl => match us, hl with | [_, _, _], _ => rfl) (fun f cdv A outer s H E hgu hr => by
 have hu64 := hr.units
 have hu1 := hu_of hr
 have hu100 := hu100_of hr
 have hu65 := hu65_of hr
 have nd := sc_held_holds.nd
 exact (s_cons (s_if (w_or (q_not (q_val (d_callB x_isi (gl_of (by kernel_rfl!)) C.b_isinstance (by decide +kernel) (a_cons (d_var (i := 2) rfl (by first | exact Or.inl (by kernel_rfl!) | exact Or.inr (Or.inl (by kernel_rfl!)) | exact Or.inr (Or.inr (by kernel_rfl!)))) (a_cons (d_type (gl_of (by kernel_rfl!)) C.b_tuple (by decide +kernel)) a_nil))))) (w_or (q_cmp (x_neE hu64) (d_callB x_len (gl_of (by kernel_rfl!)) C.b_len (by decide +kernel) (a_cons (d_var (i := 2) rfl (by first | exact Or.inl (by kernel_rfl!) | exact Or.inr (Or.inl (by kernel_rfl!)) | exact Or.inr (Or.inr (by kernel_rfl!)))) a_nil)) (d_callB x_len (gl_of (by kernel_rfl!)) C.b_len (by decide +kernel) (a_cons (d_var (i := 1) rfl (by first | exact Or.inl (by kernel_rfl!) | exact Or.inr (Or.inl (by kernel_rfl!)) | exact Or.inr (Or.inr (by kernel_rfl!)))) a_nil)) (nomark _)) (w_or1 (q_not (q_val (d_callB (x_all rfl) (gl_of (by kernel_rfl!)) C.b_all (by decide +kernel) (a_cons (d_comp (own := [("one", 3)]) (hc := rfl) (hN := nd) (hi := (i_src (d_var (i := 2) rfl (by first | exact Or.inl (by kernel_rfl!) | exact Or.inr (Or.inl (by kernel_rfl!)) | exact Or.inr (Or.inr (by kernel_rfl!)))))) (ok := blkOk_by (by kernel_rfl!)) (hg := fun _ _ _ _ _ => (t_name nd rfl (by first | exact Or.inl (by kernel_rfl!) | exact Or.inr (by kernel_rfl!)))) (ht := fun _ _ _ _ _ => q_nil) (he := fun _ _ _ _ _ => (d_callC (ok_is_step C) hgu (hr.mono (by decide)) (gl_of (by kernel_rfl!)) (a_cons (d_var (i := 3) rfl (by first | exact Or.inl (by kernel_rfl!) | exact Or.inr (Or.inl (by kernel_rfl!)) | exact Or.inr (Or.inr (by kernel_rfl!)))) a_nil) (by decide) (by kernel_rfl!) (by kernel_rfl!)))) a_nil))))))).pt
(s_cons (s_ret d_bl)
 s_nil)
s_nil)
 (s_cons (s_if (q_not (q_val (d_callB (x_all rfl) (gl_of (by kernel_rfl!)) C.b_all (by decide +kernel) (a_cons (d_comp (own := [("number", 5), ("step", 6)]) (hc := rfl) (hN := nd) (hi := (i_zipS (gl_of (by kernel_rfl!)) C.b_zip (a_cons (d_var (i := 1) rfl (by first | exact Or.inl (by kernel_rfl!) | exact Or.inr (Or.inl (by kernel_rfl!)) | exact Or.inr (Or.inr (by kernel_rfl!)))) (a_cons (d_var (i := 2) rfl (by first | exact Or.inl (by kernel_rfl!) | exact Or.inr (Or.inl (by kernel_rfl!)) | exact Or.inr (Or.inr (by kernel_rfl!)))) a_nil)))) (ok := blkOk_by (by kernel_rfl!)) (hg := fun _ _ _ _ _ => (t_pair rfl (t_name nd rfl (by first | exact Or.inl (by kernel_rfl!) | exact Or.inr (by kernel_rfl!))) (t_name nd rfl (by first | exact Or.inl (by kernel_rfl!) | exact Or.inr (by kernel_rfl!))))) (ht := fun _ _ _ _ _ => q_nil) (he := fun _ _ _ _ _ => (d_callC (ok_is_within C) hgu (hr.mono (by decide)) (gl_of (by kernel_rfl!)) (a_cons (d_ix x_ix (d_var (i := 0) rfl (by first | exact Or.inl (by kernel_rfl!) | exact Or.inr (Or.inl (by kernel_rfl!)) | exact Or.inr (Or.inr (by kernel_rfl!)))) (d_var (i := 5) rfl (by first | exact Or.inl (by kernel_rfl!) | exact Or.inr (Or.inl (by kernel_rfl!)) | exact Or.inr (Or.inr (by kernel_rfl!)))) (fun _ _ => rfl)) (a_cons (d_var (i := 6) rfl (by first | exact Or.inl (by kernel_rfl!) | exact Or.inr (Or.inl (by kernel_rfl!)) | exact Or.inr (Or.inr (by kernel_rfl!)))) a_nil)) (by decide) (by kernel_rfl!) (by kernel_rfl!)))) a_nil))))
(s_cons (s_ret d_bl)
 s_nil)
s_nil)
 (s_cons (s_ret (d_callB (x_all rfl) (gl_of (by kernel_rfl!)) C.b_all (by decide +kernel) (a_cons (d_comp (own := [("one", 3), ("other", 4)]) (hc := rfl) (hN := nd) (hi := (i_zipG (gl_of (by kernel_rfl!)) C.b_zip (a_cons (d_slice (d_var (i := 2) rfl (by first | exact Or.inl (by kernel_rfl!) | exact Or.inr (Or.inl (by kernel_rfl!)) | exact Or.inr (Or.inr (by kernel_rfl!)))) o_none (o_some (d_un x_neg d_int))) (a_cons (d_slice (d_var (i := 2) rfl (by first | exact Or.inl (by kernel_rfl!) | exact Or.inr (Or.inl (by kernel_rfl!)) | exact Or.inr (Or.inr (by kernel_rfl!)))) (o_some d_int) o_none) a_nil)))) (ok := blkOk_by (by kernel_rfl!)) (hg := fun _ _ _ _ _ => (t_pair rfl (t_name nd rfl (by first | exact Or.inl (by kernel_rfl!) | exact Or.inr (by kernel_rfl!))) (t_name nd rfl (by first | exact Or.inl (by kernel_rfl!) | exact Or.inr (by kernel_rfl!))))) (ht := fun _ _ _ _ _ => q_nil) (he := fun _ _ _ _ _ => (d_cmp x_leE (d_var (i := 3) rfl (by first | exact Or.inl (by kernel_rfl!) | exact Or.inr (Or.inl (by kernel_rfl!)) | exact Or.inr (Or.inr (by kernel_rfl!)))) (d_var (i := 4) rfl (by first | exact Or.inl (by kernel_rfl!) | exact Or.inr (Or.inl (by kernel_rfl!)) | exact Or.inr (Or.inr (by kernel_rfl!)))) (nomark _)))) a_nil)))
 s_nil))))
abbrev s__law_pick : Stmt := topS 7
theorem sc__law_pick : FnScope ["_law_deck_here", "_law_some"] ["_law_deck_here", "_law_some"] (defScope s__law_pick) := ⟨rfl, rfl, rfl, by decide +kernel, rfl, by decide +kernel, by decide +kernel⟩
theorem ok__law_pick (C : Fx P w K mg) : Cw P w K mg base 2 "_law_pick" 2 W30.F__law_pick :=
 cl_mk W30.body__law_pick 2 2 C.f__law_pick sc__law_pick rfl rfl (by decide) (fun _ _ _ _ _ _ us hl => match us, hl with | [_, _], _ => rfl) (fun f cdv A outer s H E hgu hr => by
 have hu64 := hr.units
 have hu1 := hu_of hr
 have hu100 := hu100_of hr
 have hu65 := hu65_of hr
 have nd := sc__law_pick.nd
 exact (s_cons (s_ret (d_ix x_ix (d_var (i := 1) rfl (by first | exact Or.inl (by kernel_rfl!) | exact Or.inr (Or.inl (by kernel_rfl!)) | exact Or.inr (Or.inr (by kernel_rfl!)))) (d_callC (ok__law_draw C) hgu (hr.mono (by decide)) (gl_of (by kernel_rfl!)) (a_cons (d_var (i := 0) rfl (by first | exact Or.inl (by kernel_rfl!) | exact Or.inr (Or.inl (by kernel_rfl!)) | exact Or.inr (Or.inr (by kernel_rfl!)))) (a_cons (d_callB x_len (gl_of (by kernel_rfl!)) C.b_len (by decide +kernel) (a_cons (d_var (i := 1) rfl (by first | exact Or.inl (by kernel_rfl!) | exact Or.inr (Or.inl (by kernel_rfl!)) | exact Or.inr (Or.inr (by kernel_rfl!)))) a_nil)) a_nil)) (by decide) (by kernel_rfl!) (by kernel_rfl!)) (fun _ _ => rfl)))
 s_nil))
abbrev s__law_specs : Stmt := topS 8
theorem sc__law_specs : FnScope [] [] (defScope s__law_specs) := ⟨rfl, rfl, rfl, by decide +kernel, rfl, by decide +kernel, by decide +kernel⟩
theorem ok__law_specs (C : Fx P w K mg) : Cw P w K mg base 1 "_law_specs" 0 W30.F__law_specs :=
 cl_mk W30.body__law_specs 0 0 C.f__law_specs sc__law_specs rfl rfl (by decide) (fun _ _ _ _ _ _ us hl => match us, hl with | [], _ => rfl) (fun f cdv A outer s H E hgu hr => by
 have hu64 := hr.units
 have hu1 := hu_of hr
 have hu100 := hu100_of hr
 have hu65 := hu65_of hr
 have nd := sc__law_specs.nd
 exact (s_cons (s_ret (d_lst (a_cons d_str (a_cons d_str (a_cons d_str (a_cons d_str (a_cons d_str a_nil)))))))
 s_nil))
abbrev s__law_first : Stmt := topS 9
theorem sc__law_first : FnScope ["_law_spec"] ["_law_spec"] (defScope s__law_first) := ⟨rfl, rfl, rfl, by decide +kernel, rfl, by decide +kernel, by decide +kernel⟩
theorem ok__law_first (C : Fx P w K mg) : Cw P w K mg base 1 "_law_first" 1 W30.F__law_first :=
 cl_mk W30.body__law_first 1 1 C.f__law_first sc__law_first rfl rfl (by decide) (fun _ _ _ _ _ _ us hl => match us, hl with | [_], _ => rfl) (fun f cdv A outer s H E hgu hr => by
 have hu64 := hr.units
 have hu1 := hu_of hr
 have hu100 := hu100_of hr
 have hu65 := hu65_of hr
 have nd := sc__law_first.nd
 exact (s_cons (s_ret (d_ix x_ix (d_lst (a_cons (d_tup a_nil) (a_cons d_int a_nil))) (d_callTy x_int (gl_of (by kernel_rfl!)) C.b_int (by decide +kernel) (a_cons (d_cmp (x_eqE hu64) (d_var (i := 0) rfl (by first | exact Or.inl (by kernel_rfl!) | exact Or.inr (Or.inl (by kernel_rfl!)) | exact Or.inr (Or.inr (by kernel_rfl!)))) d_str (nomark _)) a_nil)) (fun _ _ => rfl)))
 s_nil))
abbrev s__law_deed : Stmt := topS 10
theorem sc__law_deed : FnScope ["_law_deck_here", "_law_spec", "_law_key", "_law_worth", "_law_words", "_law_word"] ["_law_deck_here", "_law_spec"] (defScope s__law_deed) := ⟨rfl, rfl, rfl, by decide +kernel, rfl, by decide +kernel, by decide +kernel⟩
theorem ok__law_deed (C : Fx P w K mg) : Cw P w K mg base 3 "_law_deed" 2 W30.F__law_deed :=
 cl_mk W30.body__law_deed 2 6 C.f__law_deed sc__law_deed rfl rfl (by decide) (fun _ _ _ _ _ _ us hl => match us, hl with | [_, _], _ => rfl) (fun f cdv A outer s H E hgu hr => by
 have hu64 := hr.units
 have hu1 := hu_of hr
 have hu100 := hu100_of hr
 have hu65 := hu65_of hr
 have nd := sc__law_deed.nd
 exact (s_cons (s_asg (d_callC (ok__law_pick C) hgu (hr.mono (by decide)) (gl_of (by kernel_rfl!)) (a_cons (d_var (i := 0) rfl (by first | exact Or.inl (by kernel_rfl!) | exact Or.inr (Or.inl (by kernel_rfl!)) | exact Or.inr (Or.inr (by kernel_rfl!)))) (a_cons (d_lst (a_cons d_int (a_cons d_int (a_cons d_int (a_cons d_int a_nil))))) a_nil)) (by decide) (by kernel_rfl!) (by kernel_rfl!)) (t_name nd rfl (by first | exact Or.inl (by kernel_rfl!) | exact Or.inr (by kernel_rfl!))))
 (s_cons (s_asg (d_callC (ok__law_pick C) hgu (hr.mono (by decide)) (gl_of (by kernel_rfl!)) (a_cons (d_var (i := 0) rfl (by first | exact Or.inl (by kernel_rfl!) | exact Or.inr (Or.inl (by kernel_rfl!)) | exact Or.inr (Or.inr (by kernel_rfl!)))) (a_cons (d_lst (a_cons d_int (a_cons d_int (a_cons d_int (a_cons d_int a_nil))))) a_nil)) (by decide) (by kernel_rfl!) (by kernel_rfl!)) (t_name nd rfl (by first | exact Or.inl (by kernel_rfl!) | exact Or.inr (by kernel_rfl!))))
 (s_cons (s_ownD (dp_cons (d_lst (a_cons d_str (a_cons d_str a_nil))) (dp_cons (d_lst (a_cons d_str (a_cons d_str (a_cons d_str a_nil)))) (dp_cons (d_lst (a_cons d_str (a_cons d_str a_nil))) dp_nil))) (by kernel_rfl!) (by kernel_rfl!) (fun z => by cases z) (by decide) (by decide) (by decide +kernel) nd rfl (by first | exact Or.inl (by kernel_rfl!) | exact Or.inr (by kernel_rfl!)) (by first | exact Or.inl (by kernel_rfl!) | exact Or.inr (by kernel_rfl!)) (by kernel_rfl!) (by kernel_rfl!) (by kernel_rfl!))
 (s_cons (s_upd rfl (by first | exact Or.inl (by kernel_rfl!) | exact Or.inr (Or.inl (by kernel_rfl!)) | exact Or.inr (Or.inr (by kernel_rfl!))) (d_disp (dp_cons (d_lst (a_cons d_str (a_cons d_str a_nil))) (dp_cons (d_lst (a_cons d_str (a_cons d_str (a_cons d_str a_nil)))) dp_nil)) (by kernel_rfl!) (by kernel_rfl!) (fun z => by cases z) (by decide) (by decide) (by decide +kernel)))
 (s_cons (s_asg (d_callC (ok__law_pick C) hgu (hr.mono (by decide)) (gl_of (by kernel_rfl!)) (a_cons (d_var (i := 0) rfl (by first | exact Or.inl (by kernel_rfl!) | exact Or.inr (Or.inl (by kernel_rfl!)) | exact Or.inr (Or.inr (by kernel_rfl!)))) (a_cons (d_oget hu1 rfl (by first | exact Or.inl (by kernel_rfl!) | exact Or.inr (Or.inl (by kernel_rfl!)) | exact Or.inr (Or.inr (by kernel_rfl!))) (d_var (i := 1) rfl (by first | exact Or.inl (by kernel_rfl!) | exact Or.inr (Or.inl (by kernel_rfl!)) | exact Or.inr (Or.inr (by kernel_rfl!)))) (fun _ _ => rfl)) a_nil)) (by decide) (by kernel_rfl!) (by kernel_rfl!)) (t_name nd rfl (by first | exact Or.inl (by kernel_rfl!) | exact Or.inr (by kernel_rfl!))))
 (s_cons (s_if (q_cmp (x_in hu65) (d_var (i := 5) rfl (by first | exact Or.inl (by kernel_rfl!) | exact Or.inr (Or.inl (by kernel_rfl!)) | exact Or.inr (Or.inr (by kernel_rfl!)))) (d_tup (a_cons d_str (a_cons d_str (a_cons d_str (a_cons d_str a_nil))))) (by kernel_rfl!))
(s_cons (s_ret (d_tup (a_cons (d_var (i := 5) rfl (by first | exact Or.inl (by kernel_rfl!) | exact Or.inr (Or.inl (by kernel_rfl!)) | exact Or.inr (Or.inr (by kernel_rfl!)))) a_nil)))
 s_nil)
s_nil)
 (s_cons (s_if (q_cmp (x_eqE hu64) (d_var (i := 1) rfl (by first | exact Or.inl (by kernel_rfl!) | exact Or.inr (Or.inl (by kernel_rfl!)) | exact Or.inr (Or.inr (by kernel_rfl!)))) d_str (nomark _))
(s_cons (s_ret (d_op x_addB (d_tup (a_cons (d_var (i := 5) rfl (by first | exact Or.inl (by kernel_rfl!) | exact Or.inr (Or.inl (by kernel_rfl!)) | exact Or.inr (Or.inr (by kernel_rfl!)))) (a_cons (d_op x_mod (d_var (i := 2) rfl (by first | exact Or.inl (by kernel_rfl!) | exact Or.inr (Or.inl (by kernel_rfl!)) | exact Or.inr (Or.inr (by kernel_rfl!)))) d_int) a_nil))) (d_op x_mulB (d_tup (a_cons (d_var (i := 3) rfl (by first | exact Or.inl (by kernel_rfl!) | exact Or.inr (Or.inl (by kernel_rfl!)) | exact Or.inr (Or.inr (by kernel_rfl!)))) a_nil)) (d_callTy x_int (gl_of (by kernel_rfl!)) C.b_int (by decide +kernel) (a_cons (d_cmp (x_eqE hu64) (d_var (i := 5) rfl (by first | exact Or.inl (by kernel_rfl!) | exact Or.inr (Or.inl (by kernel_rfl!)) | exact Or.inr (Or.inr (by kernel_rfl!)))) d_str (nomark _)) a_nil)))))
 s_nil)
s_nil)
 (s_cons (s_ret (d_tup (a_cons (d_var (i := 5) rfl (by first | exact Or.inl (by kernel_rfl!) | exact Or.inr (Or.inl (by kernel_rfl!)) | exact Or.inr (Or.inr (by kernel_rfl!)))) (a_cons (d_ix x_ix (d_lst (a_cons (d_var (i := 2) rfl (by first | exact Or.inl (by kernel_rfl!) | exact Or.inr (Or.inl (by kernel_rfl!)) | exact Or.inr (Or.inr (by kernel_rfl!)))) (a_cons (d_var (i := 3) rfl (by first | exact Or.inl (by kernel_rfl!) | exact Or.inr (Or.inl (by kernel_rfl!)) | exact Or.inr (Or.inr (by kernel_rfl!)))) a_nil))) (d_callTy x_int (gl_of (by kernel_rfl!)) C.b_int (by decide +kernel) (a_cons (d_cmp (x_neE hu64) (d_var (i := 1) rfl (by first | exact Or.inl (by kernel_rfl!) | exact Or.inr (Or.inl (by kernel_rfl!)) | exact Or.inr (Or.inr (by kernel_rfl!)))) d_str (nomark _)) a_nil)) (fun _ _ => rfl)) a_nil))))
 s_nil)))))))))
abbrev s__law_ways : Stmt := topS 11
theorem sc__law_ways : FnScope ["_law_spec", "_law_state", "_law_deed_here", "_law_word", "_law_key", "_law_there", "_law_told", "_law_one"] ["_law_spec", "_law_state", "_law_deed_here"] (defScope s__law_ways) := ⟨rfl, rfl, rfl, by decide +kernel, rfl, by decide +kernel, by decide +kernel⟩
theorem ok__law_ways (C : Fx P w K mg) : Cw P w K mg base 1 "_law_ways" 3 W30.F__law_ways :=
 cl_mk W30.body__law_ways 3 8 C.f__law_ways sc__law_ways rfl rfl (by decide) (fun _ _ _ _ _ _ us hl => match us, hl with | [_, _, _], _ => rfl) (fun f cdv A outer s H E hgu hr => by
 have hu64 := hr.units
 have hu1 := hu_of hr
 have hu100 := hu100_of hr
 have hu65 := hu65_of hr
 have nd := sc__law_ways.nd
 exact (s_cons (s_asg (d_ix x_ix (d_var (i := 2) rfl (by first | exact Or.inl (by kernel_rfl!) | exact Or.inr (Or.inl (by kernel_rfl!)) | exact Or.inr (Or.inr (by kernel_rfl!)))) d_int (fun _ _ => rfl)) (t_name nd rfl (by first | exact Or.inl (by kernel_rfl!) | exact Or.inr (by kernel_rfl!))))
 (s_cons (s_if (q_cmp (x_eqE hu64) (d_var (i := 0) rfl (by first | exact Or.inl (by kernel_rfl!) | exact Or.inr (Or.inl (by kernel_rfl!)) | exact Or.inr (Or.inr (by kernel_rfl!)))) d_str (nomark _))
(s_cons (s_ret (d_lst (a_cons (d_op x_mulB (d_tup (a_cons (d_op x_addB (d_var (i := 1) rfl (by first | exact Or.inl (by kernel_rfl!) | exact Or.inr (Or.inl (by kernel_rfl!)) | exact Or.inr (Or.inr (by kernel_rfl!)))) (d_callTy x_int (gl_of (by kernel_rfl!)) C.b_int (by decide +kernel) (a_cons (d_cmp (x_eqE hu64) (d_var (i := 3) rfl (by first | exact Or.inl (by kernel_rfl!) | exact Or.inr (Or.inl (by kernel_rfl!)) | exact Or.inr (Or.inr (by kernel_rfl!)))) d_str (nomark _)) a_nil))) a_nil)) d_int) a_nil)))
 s_nil)
s_nil)
 (s_cons (s_if (q_cmp (x_in hu65) (d_var (i := 3) rfl (by first | exact Or.inl (by kernel_rfl!) | exact Or.inr (Or.inl (by kernel_rfl!)) | exact Or.inr (Or.inr (by kernel_rfl!)))) (d_tup (a_cons d_str (a_cons d_str a_nil))) (by kernel_rfl!))
(s_cons (s_ret (d_ifx (q_cmp (x_neE hu64) (d_var (i := 1) rfl (by first | exact Or.inl (by kernel_rfl!) | exact Or.inr (Or.inl (by kernel_rfl!)) | exact Or.inr (Or.inr (by kernel_rfl!)))) (d_tup a_nil) (nomark _)) (d_lst (a_cons (d_tup (a_cons (d_ix x_ix (d_var (i := 1) rfl (by first | exact Or.inl (by kernel_rfl!) | exact Or.inr (Or.inl (by kernel_rfl!)) | exact Or.inr (Or.inr (by kernel_rfl!)))) d_int (fun _ _ => rfl)) (a_cons (d_slice (d_var (i := 1) rfl (by first | exact Or.inl (by kernel_rfl!) | exact Or.inr (Or.inl (by kernel_rfl!)) | exact Or.inr (Or.inr (by kernel_rfl!)))) (o_some d_int) o_none) a_nil))) a_nil)) (d_lst (a_cons (d_tup (a_cons d_int (a_cons (d_var (i := 1) rfl (by first | exact Or.inl (by kernel_rfl!) | exact Or.inr (Or.inl (by kernel_rfl!)) | exact Or.inr (Or.inr (by kernel_rfl!)))) a_nil))) a_nil))))
 s_nil)
s_nil)
 (s_cons (s_if (q_cmp (x_in hu65) (d_var (i := 3) rfl (by first | exact Or.inl (by kernel_rfl!) | exact Or.inr (Or.inl (by kernel_rfl!)) | exact Or.inr (Or.inr (by kernel_rfl!)))) (d_tup (a_cons d_str (a_cons d_str a_nil))) (by kernel_rfl!))
(s_cons (s_ret (d_lst (a_cons (d_tup (a_cons d_int (a_cons (d_ix x_ix (d_lst (a_cons (d_op x_addB (d_var (i := 1) rfl (by first | exact Or.inl (by kernel_rfl!) | exact Or.inr (Or.inl (by kernel_rfl!)) | exact Or.inr (Or.inr (by kernel_rfl!)))) (d_slice (d_var (i := 2) rfl (by first | exact Or.inl (by kernel_rfl!) | exact Or.inr (Or.inl (by kernel_rfl!)) | exact Or.inr (Or.inr (by kernel_rfl!)))) (o_some d_int) o_none)) (a_cons (d_op x_addB (d_slice (d_var (i := 2) rfl (by first | exact Or.inl (by kernel_rfl!) | exact Or.inr (Or.inl (by kernel_rfl!)) | exact Or.inr (Or.inr (by kernel_rfl!)))) (o_some d_int) o_none) (d_var (i := 1) rfl (by first | exact Or.inl (by kernel_rfl!) | exact Or.inr (Or.inl (by kernel_rfl!)) | exact Or.inr (Or.inr (by kernel_rfl!))))) a_nil))) (d_callTy x_int (gl_of (by kernel_rfl!)) C.b_int (by decide +kernel) (a_cons (d_cmp (x_eqE hu64) (d_var (i := 3) rfl (by first | exact Or.inl (by kernel_rfl!) | exact Or.inr (Or.inl (by kernel_rfl!)) | exact Or.inr (Or.inr (by kernel_rfl!)))) d_str (nomark _)) a_nil)) (fun _ _ => rfl)) a_nil))) (a_cons (d_tup (a_cons d_int (a_cons (d_var (i := 1) rfl (by first | exact Or.inl (by kernel_rfl!) | exact Or.inr (Or.inl (by kernel_rfl!)) | exact Or.inr (Or.inr (by kernel_rfl!)))) a_nil))) a_nil))))
 s_nil)
s_nil)
 (s_cons (s_asg (d_ix x_ix (d_var (i := 2) rfl (by first | exact Or.inl (by kernel_rfl!) | exact Or.inr (Or.inl (by kernel_rfl!)) | exact Or.inr (Or.inr (by kernel_rfl!)))) d_int (fun _ _ => rfl)) (t_name nd rfl (by first | exact Or.inl (by kernel_rfl!) | exact Or.inr (by kernel_rfl!))))
 (s_cons (s_asg (d_dictPN rfl (gl_of (by kernel_rfl!)) C.b_dict (d_comp (own := [("_law_one", 7)]) (hc := rfl) (hN := nd) (hi := (i_src (d_var (i := 1) rfl (by first | exact Or.inl (by kernel_rfl!) | exact Or.inr (Or.inl (by kernel_rfl!)) | exact Or.inr (Or.inr (by kernel_rfl!)))))) (ok := blkOk_by (by kernel_rfl!)) (hg := fun _ _ _ _ _ => (t_name nd rfl (by first | exact Or.inl (by kernel_rfl!) | exact Or.inr (by kernel_rfl!)))) (ht := fun _ _ _ _ _ => q_nil) (he := fun _ _ _ _ _ => (d_ifx (q_cmp (x_eqE hu64) (d_var (i := 0) rfl (by first | exact Or.inl (by kernel_rfl!) | exact Or.inr (Or.inl (by kernel_rfl!)) | exact Or.inr (Or.inr (by kernel_rfl!)))) d_str (nomark _)) (d_var (i := 7) rfl (by first | exact Or.inl (by kernel_rfl!) | exact Or.inr (Or.inl (by kernel_rfl!)) | exact Or.inr (Or.inr (by kernel_rfl!)))) (d_tup (a_cons (d_var (i := 7) rfl (by first | exact Or.inl (by kernel_rfl!) | exact Or.inr (Or.inl (by kernel_rfl!)) | exact Or.inr (Or.inr (by kernel_rfl!)))) (a_cons d_int a_nil))))))) (t_name nd rfl (by first | exact Or.inl (by kernel_rfl!) | exact Or.inr (by kernel_rfl!))))
 (s_cons (s_asg (d_get2S hu1 (d_var (i := 5) rfl (by first | exact Or.inl (by kernel_rfl!) | exact Or.inr (Or.inl (by kernel_rfl!)) | exact Or.inr (Or.inr (by kernel_rfl!)))) (d_var (i := 4) rfl (by first | exact Or.inl (by kernel_rfl!) | exact Or.inr (Or.inl (by kernel_rfl!)) | exact Or.inr (Or.inr (by kernel_rfl!)))) d_int) (t_name nd rfl (by first | exact Or.inl (by kernel_rfl!) | exact Or.inr (by kernel_rfl!))))
 (s_cons (s_if (q_cmp (x_in hu65) (d_var (i := 3) rfl (by first | exact Or.inl (by kernel_rfl!) | exact Or.inr (Or.inl (by kernel_rfl!)) | exact Or.inr (Or.inr (by kernel_rfl!)))) (d_tup (a_cons d_str (a_cons d_str a_nil))) (by kernel_rfl!))
(s_cons (s_ret (d_lst (a_cons (d_tup (a_cons (d_var (i := 6) rfl (by first | exact Or.inl (by kernel_rfl!) | exact Or.inr (Or.inl (by kernel_rfl!)) | exact Or.inr (Or.inr (by kernel_rfl!)))) (a_cons (d_var (i := 1) rfl (by first | exact Or.inl (by kernel_rfl!) | exact Or.inr (Or.inl (by kernel_rfl!)) | exact Or.inr (Or.inr (by kernel_rfl!)))) a_nil))) a_nil)))
 s_nil)
s_nil)
 (s_cons (s_if (q_cmp (x_eqE hu64) (d_var (i := 3) rfl (by first | exact Or.inl (by kernel_rfl!) | exact Or.inr (Or.inl (by kernel_rfl!)) | exact Or.inr (Or.inr (by kernel_rfl!)))) d_str (nomark _))
(s_cons (s_ret (d_lst (a_cons (d_tup (a_cons (d_var (i := 6) rfl (by first | exact Or.inl (by kernel_rfl!) | exact Or.inr (Or.inl (by kernel_rfl!)) | exact Or.inr (Or.inr (by kernel_rfl!)))) (a_cons (d_callTy x_tuple (gl_of (by kernel_rfl!)) C.b_tuple (by decide +kernel) (a_cons (d_comp (own := [("_law_one", 7)]) (hc := rfl) (hN := nd) (hi := (i_src (d_var (i := 1) rfl (by first | exact Or.inl (by kernel_rfl!) | exact Or.inr (Or.inl (by kernel_rfl!)) | exact Or.inr (Or.inr (by kernel_rfl!)))))) (ok := blkOk_by (by kernel_rfl!)) (hg := fun _ _ _ _ _ => (t_name nd rfl (by first | exact Or.inl (by kernel_rfl!) | exact Or.inr (by kernel_rfl!)))) (ht := fun _ _ _ _ _ => (q_one (w_and (q_cmp (x_neE hu64) (d_var (i := 7) rfl (by first | exact Or.inl (by kernel_rfl!) | exact Or.inr (Or.inl (by kernel_rfl!)) | exact Or.inr (Or.inr (by kernel_rfl!)))) (d_var (i := 4) rfl (by first | exact Or.inl (by kernel_rfl!) | exact Or.inr (Or.inl (by kernel_rfl!)) | exact Or.inr (Or.inr (by kernel_rfl!)))) (nomark _)) (w_and1 (q_cmp (x_neE hu64) (d_var (i := 7) rfl (by first | exact Or.inl (by kernel_rfl!) | exact Or.inr (Or.inl (by kernel_rfl!)) | exact Or.inr (Or.inr (by kernel_rfl!)))) (d_tup (a_cons (d_var (i := 4) rfl (by first | exact Or.inl (by kernel_rfl!) | exact Or.inr (Or.inl (by kernel_rfl!)) | exact Or.inr (Or.inr (by kernel_rfl!)))) (a_cons (d_var (i := 6) rfl (by first | exact Or.inl (by kernel_rfl!) | exact Or.inr (Or.inl (by kernel_rfl!)) | exact Or.inr (Or.inr (by kernel_rfl!)))) a_nil))) (nomark _)))).pt)) (he := fun _ _ _ _ _ => (d_var (i := 7) rfl (by first | exact Or.inl (by kernel_rfl!) | exact Or.inr (Or.inl (by kernel_rfl!)) | exact Or.inr (Or.inr (by kernel_rfl!)))))) a_nil)) a_nil))) a_nil)))
 s_nil)
s_nil)
 (s_cons (s_if (q_cmp x_gt (d_var (i := 6) rfl (by first | exact Or.inl (by kernel_rfl!) | exact Or.inr (Or.inl (by kernel_rfl!)) | exact Or.inr (Or.inr (by kernel_rfl!)))) d_int (nomark _))
(s_cons (s_ret (d_lst (a_cons (d_tup (a_cons d_int (a_cons (d_var (i := 1) rfl (by first | exact Or.inl (by kernel_rfl!) | exact Or.inr (Or.inl (by kernel_rfl!)) | exact Or.inr (Or.inr (by kernel_rfl!)))) a_nil))) (a_cons (d_tup (a_cons d_int (a_cons (d_var (i := 1) rfl (by first | exact Or.inl (by kernel_rfl!) | exact Or.inr (Or.inl (by kernel_rfl!)) | exact Or.inr (Or.inr (by kernel_rfl!)))) a_nil))) a_nil))))
 s_nil)
s_nil)
 (s_cons (s_ret (d_lst (a_cons (d_tup (a_cons d_int (a_cons (d_callTy x_tuple (gl_of (by kernel_rfl!)) C.b_tuple (by decide +kernel) (a_cons (d_callB (x_sortedE rfl) (gl_of (by kernel_rfl!)) C.b_sorted (by decide +kernel) (a_cons (d_op x_addB (d_var (i := 1) rfl (by first | exact Or.inl (by kernel_rfl!) | exact Or.inr (Or.inl (by kernel_rfl!)) | exact Or.inr (Or.inr (by kernel_rfl!)))) (d_tup (a_cons (d_ix x_ix (d_lst (a_cons (d_var (i := 4) rfl (by first | exact Or.inl (by kernel_rfl!) | exact Or.inr (Or.inl (by kernel_rfl!)) | exact Or.inr (Or.inr (by kernel_rfl!)))) (a_cons (d_slice (d_var (i := 2) rfl (by first | exact Or.inl (by kernel_rfl!) | exact Or.inr (Or.inl (by kernel_rfl!)) | exact Or.inr (Or.inr (by kernel_rfl!)))) (o_some d_int) o_none) a_nil))) (d_callTy x_int (gl_of (by kernel_rfl!)) C.b_int (by decide +kernel) (a_cons (d_cmp (x_eqE hu64) (d_var (i := 0) rfl (by first | exact Or.inl (by kernel_rfl!) | exact Or.inr (Or.inl (by kernel_rfl!)) | exact Or.inr (Or.inr (by kernel_rfl!)))) d_str (nomark _)) a_nil)) (fun _ _ => rfl)) a_nil))) a_nil)) a_nil)) a_nil))) (a_cons (d_tup (a_cons d_int (a_cons (d_var (i := 1) rfl (by first | exact Or.inl (by kernel_rfl!) | exact Or.inr (Or.inl (by kernel_rfl!)) | exact Or.inr (Or.inr (by kernel_rfl!)))) a_nil))) a_nil))))
 s_nil))))))))))))
abbrev s__law_history : Stmt := topS 12
theorem sc__law_history : FnScope ["_law_deck_here", "_law_spec", "_law_hands", "_law_most", "_law_rows", "_law_at", "_law_told", "_law_order", "_law_state", "_law_step", "_law_far", "_law_turn", "_law_hand", "_law_way", "_law_ways_here", "_law_row"] ["_law_deck_here", "_law_spec", "_law_hands", "_law_most"] (defScope s__law_history) := ⟨rfl, rfl, rfl, by decide +kernel, rfl, by decide +kernel, by decide +kernel⟩
theorem ok__law_history (C : Fx P w K mg) : Cw P w K mg base 4 "_law_history" 4 W30.F__law_history :=
 cl_mk W30.body__law_history 4 16 C.f__law_history sc__law_history rfl rfl (by decide) (fun _ _ _ _ _ _ us hl => match us, hl with | [_, _, _, _], _ => rfl) (fun f cdv A outer s H E hgu hr => by
 have hu64 := hr.units
 have hu1 := hu_of hr
 have hu100 := hu100_of hr
 have hu65 := hu65_of hr
 have nd := sc__law_history.nd
 exact (s_cons (s_asg (d_tup (a_cons (d_newL a_nil) (a_cons d_newD0 (a_cons d_newD0 (a_cons (d_newL a_nil) a_nil))))) (t_seqT rfl (.cons (t_name nd rfl (by first | exact Or.inl (by kernel_rfl!) | exact Or.inr (by kernel_rfl!))) (.cons (t_name nd rfl (by first | exact Or.inl (by kernel_rfl!) | exact Or.inr (by kernel_rfl!))) (.cons (t_name nd rfl (by first | exact Or.inl (by kernel_rfl!) | exact Or.inr (by kernel_rfl!))) (.cons (t_name nd rfl (by first | exact Or.inl (by kernel_rfl!) | exact Or.inr (by kernel_rfl!))) .nil))))))
 (s_cons (s_par2 rfl nd (a_cons (d_callC (ok__law_first C) hgu (hr.mono (by decide)) (gl_of (by kernel_rfl!)) (a_cons (d_var (i := 1) rfl (by first | exact Or.inl (by kernel_rfl!) | exact Or.inr (Or.inl (by kernel_rfl!)) | exact Or.inr (Or.inr (by kernel_rfl!)))) a_nil) (by decide) (by kernel_rfl!) (by kernel_rfl!)) (a_cons (d_callC (ok__law_draw C) hgu (hr.mono (by decide)) (gl_of (by kernel_rfl!)) (a_cons (d_var (i := 0) rfl (by first | exact Or.inl (by kernel_rfl!) | exact Or.inr (Or.inl (by kernel_rfl!)) | exact Or.inr (Or.inr (by kernel_rfl!)))) (a_cons d_int a_nil)) (by decide) (by kernel_rfl!) (by kernel_rfl!)) a_nil)) rfl rfl (by decide))
 (s_cons (s_asg (d_callC (ok__law_pick C) hgu (hr.mono (by decide)) (gl_of (by kernel_rfl!)) (a_cons (d_var (i := 0) rfl (by first | exact Or.inl (by kernel_rfl!) | exact Or.inr (Or.inl (by kernel_rfl!)) | exact Or.inr (Or.inr (by kernel_rfl!)))) (a_cons (d_lst (a_cons d_int (a_cons d_int (a_cons d_int a_nil)))) a_nil)) (by decide) (by kernel_rfl!) (by kernel_rfl!)) (t_name nd rfl (by first | exact Or.inl (by kernel_rfl!) | exact Or.inr (by kernel_rfl!))))
 (s_cons (s_for (i_range1 (gl_of (by kernel_rfl!)) C.b_range (a_cons (d_op x_mul d_int (d_var (i := 3) rfl (by first | exact Or.inl (by kernel_rfl!) | exact Or.inr (Or.inl (by kernel_rfl!)) | exact Or.inr (Or.inr (by kernel_rfl!))))) a_nil)) (t_name nd rfl (by first | exact Or.inl (by kernel_rfl!) | exact Or.inr (by kernel_rfl!)))
(s_cons (s_par2 rfl nd (a_cons (d_callC (ok__law_draw C) hgu (hr.mono (by decide)) (gl_of (by kernel_rfl!)) (a_cons (d_var (i := 0) rfl (by first | exact Or.inl (by kernel_rfl!) | exact Or.inr (Or.inl (by kernel_rfl!)) | exact Or.inr (Or.inr (by kernel_rfl!)))) (a_cons (d_var (i := 2) rfl (by first | exact Or.inl (by kernel_rfl!) | exact Or.inr (Or.inl (by kernel_rfl!)) | exact Or.inr (Or.inr (by kernel_rfl!)))) a_nil)) (by decide) (by kernel_rfl!) (by kernel_rfl!)) (a_cons (d_callC (ok__law_draw C) hgu (hr.mono (by decide)) (gl_of (by kernel_rfl!)) (a_cons (d_var (i := 0) rfl (by first | exact Or.inl (by kernel_rfl!) | exact Or.inr (Or.inl (by kernel_rfl!)) | exact Or.inr (Or.inr (by kernel_rfl!)))) (a_cons d_int a_nil)) (by decide) (by kernel_rfl!) (by kernel_rfl!)) a_nil)) rfl rfl (by decide))
 (s_cons (s_if (w_and (q_inSN hu1 (d_var (i := 12) rfl (by first | exact Or.inl (by kernel_rfl!) | exact Or.inr (Or.inl (by kernel_rfl!)) | exact Or.inr (Or.inr (by kernel_rfl!)))) (d_var (i := 5) rfl (by first | exact Or.inl (by kernel_rfl!) | exact Or.inr (Or.inl (by kernel_rfl!)) | exact Or.inr (Or.inr (by kernel_rfl!))))) (w_and (q_cmp x_lt (d_callBS x_len (gl_of (by kernel_rfl!)) C.b_len (by decide +kernel) (a_cons (d_var (i := 4) rfl (by first | exact Or.inl (by kernel_rfl!) | exact Or.inr (Or.inl (by kernel_rfl!)) | exact Or.inr (Or.inr (by kernel_rfl!)))) a_nil)) (d_var (i := 3) rfl (by first | exact Or.inl (by kernel_rfl!) | exact Or.inr (Or.inl (by kernel_rfl!)) | exact Or.inr (Or.inr (by kernel_rfl!)))) (nomark _)) (w_and1 (q_cmp x_lt (d_countI (d_compG (own := [("_law_row", 15)]) (hc := rfl) (hN := nd) (hi := (g_l (d_var (i := 4) rfl (by first | exact Or.inl (by kernel_rfl!) | exact Or.inr (Or.inl (by kernel_rfl!)) | exact Or.inr (Or.inr (by kernel_rfl!)))))) (ok := blkOk_by (by kernel_rfl!)) (hg := fun _ _ _ _ _ => (t_name nd rfl (by first | exact Or.inl (by kernel_rfl!) | exact Or.inr (by kernel_rfl!)))) (ht := fun _ _ _ _ _ => q_nil) (he := fun _ _ _ _ _ => (d_ixS x_ix (d_var (i := 15) rfl (by first | exact Or.inl (by kernel_rfl!) | exact Or.inr (Or.inl (by kernel_rfl!)) | exact Or.inr (Or.inr (by kernel_rfl!)))) d_int (fun _ _ => rfl)))) (d_var (i := 12) rfl (by first | exact Or.inl (by kernel_rfl!) | exact Or.inr (Or.inl (by kernel_rfl!)) | exact Or.inr (Or.inr (by kernel_rfl!))))) d_int (nomark _))))).pt
(s_cons (s_setDS hu1 (d_var (i := 5) rfl (by first | exact Or.inl (by kernel_rfl!) | exact Or.inr (Or.inl (by kernel_rfl!)) | exact Or.inr (Or.inr (by kernel_rfl!)))) (d_var (i := 12) rfl (by first | exact Or.inl (by kernel_rfl!) | exact Or.inr (Or.inl (by kernel_rfl!)) | exact Or.inr (Or.inr (by kernel_rfl!)))) (d_callBS x_len (gl_of (by kernel_rfl!)) C.b_len (by decide +kernel) (a_cons (d_var (i := 4) rfl (by first | exact Or.inl (by kernel_rfl!) | exact Or.inr (Or.inl (by kernel_rfl!)) | exact Or.inr (Or.inr (by kernel_rfl!)))) a_nil)))
 (s_cons (s_expr (d_mtS ms_append PySem.F.slot_list_append PySem.F.type_list_append mt_append (d_var (i := 4) rfl (by first | exact Or.inl (by kernel_rfl!) | exact Or.inr (Or.inl (by kernel_rfl!)) | exact Or.inr (Or.inr (by kernel_rfl!)))) (a_cons (d_newL (a_cons (d_var (i := 12) rfl (by first | exact Or.inl (by kernel_rfl!) | exact Or.inr (Or.inl (by kernel_rfl!)) | exact Or.inr (Or.inr (by kernel_rfl!)))) (a_cons (d_callC (ok__law_deed C) hgu (hr.mono (by decide)) (gl_of (by kernel_rfl!)) (a_cons (d_var (i := 0) rfl (by first | exact Or.inl (by kernel_rfl!) | exact Or.inr (Or.inl (by kernel_rfl!)) | exact Or.inr (Or.inr (by kernel_rfl!)))) (a_cons (d_var (i := 1) rfl (by first | exact Or.inl (by kernel_rfl!) | exact Or.inr (Or.inl (by kernel_rfl!)) | exact Or.inr (Or.inr (by kernel_rfl!)))) a_nil)) (by decide) (by kernel_rfl!) (by kernel_rfl!)) (a_cons d_non (a_cons (d_var (i := 9) rfl (by first | exact Or.inl (by kernel_rfl!) | exact Or.inr (Or.inl (by kernel_rfl!)) | exact Or.inr (Or.inr (by kernel_rfl!)))) (a_cons d_non a_nil)))))) a_nil)))
 (s_cons (s_asg (d_op x_addB (d_var (i := 9) rfl (by first | exact Or.inl (by kernel_rfl!) | exact Or.inr (Or.inl (by kernel_rfl!)) | exact Or.inr (Or.inr (by kernel_rfl!)))) (d_op x_mul (d_callTy x_int (gl_of (by kernel_rfl!)) C.b_int (by decide +kernel) (a_cons (d_cmp x_gt (d_var (i := 13) rfl (by first | exact Or.inl (by kernel_rfl!) | exact Or.inr (Or.inl (by kernel_rfl!)) | exact Or.inr (Or.inr (by kernel_rfl!)))) d_int (nomark _)) a_nil)) (d_op x_addB d_int (d_callC (ok__law_draw C) hgu (hr.mono (by decide)) (gl_of (by kernel_rfl!)) (a_cons (d_var (i := 0) rfl (by first | exact Or.inl (by kernel_rfl!) | exact Or.inr (Or.inl (by kernel_rfl!)) | exact Or.inr (Or.inr (by kernel_rfl!)))) (a_cons (d_var (i := 10) rfl (by first | exact Or.inl (by kernel_rfl!) | exact Or.inr (Or.inl (by kernel_rfl!)) | exact Or.inr (Or.inr (by kernel_rfl!)))) a_nil)) (by decide) (by kernel_rfl!) (by kernel_rfl!))))) (t_name nd rfl (by first | exact Or.inl (by kernel_rfl!) | exact Or.inr (by kernel_rfl!))))
 s_nil)))
(s_cons (s_if (w_and (q_inS hu1 (d_var (i := 12) rfl (by first | exact Or.inl (by kernel_rfl!) | exact Or.inr (Or.inl (by kernel_rfl!)) | exact Or.inr (Or.inr (by kernel_rfl!)))) (d_var (i := 5) rfl (by first | exact Or.inl (by kernel_rfl!) | exact Or.inr (Or.inl (by kernel_rfl!)) | exact Or.inr (Or.inr (by kernel_rfl!))))) (w_and1 (q_inSN hu1 (d_var (i := 12) rfl (by first | exact Or.inl (by kernel_rfl!) | exact Or.inr (Or.inl (by kernel_rfl!)) | exact Or.inr (Or.inr (by kernel_rfl!)))) (d_var (i := 6) rfl (by first | exact Or.inl (by kernel_rfl!) | exact Or.inr (Or.inl (by kernel_rfl!)) | exact Or.inr (Or.inr (by kernel_rfl!))))))).pt
(s_cons (s_asg d_int (t_name nd rfl (by first | exact Or.inl (by kernel_rfl!) | exact Or.inr (by kernel_rfl!))))
 s_nil)
s_nil)
 s_nil))
 (s_cons (s_if (w_and (q_inS hu1 (d_var (i := 12) rfl (by first | exact Or.inl (by kernel_rfl!) | exact Or.inr (Or.inl (by kernel_rfl!)) | exact Or.inr (Or.inr (by kernel_rfl!)))) (d_var (i := 5) rfl (by first | exact Or.inl (by kernel_rfl!) | exact Or.inr (Or.inl (by kernel_rfl!)) | exact Or.inr (Or.inr (by kernel_rfl!))))) (w_and (q_inSN hu1 (d_var (i := 12) rfl (by first | exact Or.inl (by kernel_rfl!) | exact Or.inr (Or.inl (by kernel_rfl!)) | exact Or.inr (Or.inr (by kernel_rfl!)))) (d_var (i := 6) rfl (by first | exact Or.inl (by kernel_rfl!) | exact Or.inr (Or.inl (by kernel_rfl!)) | exact Or.inr (Or.inr (by kernel_rfl!))))) (w_and1 (q_cmp (x_in hu65) (d_var (i := 13) rfl (by first | exact Or.inl (by kernel_rfl!) | exact Or.inr (Or.inl (by kernel_rfl!)) | exact Or.inr (Or.inr (by kernel_rfl!)))) (d_tup (a_cons d_int (a_cons d_int a_nil))) (by kernel_rfl!))))).pt
(s_cons (s_asg (d_callC (ok__law_ways C) hgu (hr.mono (by decide)) (gl_of (by kernel_rfl!)) (a_cons (d_var (i := 1) rfl (by first | exact Or.inl (by kernel_rfl!) | exact Or.inr (Or.inl (by kernel_rfl!)) | exact Or.inr (Or.inr (by kernel_rfl!)))) (a_cons (d_var (i := 8) rfl (by first | exact Or.inl (by kernel_rfl!) | exact Or.inr (Or.inl (by kernel_rfl!)) | exact Or.inr (Or.inr (by kernel_rfl!)))) (a_cons (d_ixS x_ix (d_ixS x_ix (d_var (i := 4) rfl (by first | exact Or.inl (by kernel_rfl!) | exact Or.inr (Or.inl (by kernel_rfl!)) | exact Or.inr (Or.inr (by kernel_rfl!)))) (d_getS hu1 (d_var (i := 5) rfl (by first | exact Or.inl (by kernel_rfl!) | exact Or.inr (Or.inl (by kernel_rfl!)) | exact Or.inr (Or.inr (by kernel_rfl!)))) (d_var (i := 12) rfl (by first | exact Or.inl (by kernel_rfl!) | exact Or.inr (Or.inl (by kernel_rfl!)) | exact Or.inr (Or.inr (by kernel_rfl!)))) (fun _ _ => rfl)) (fun _ _ => rfl)) d_int (fun _ _ => rfl)) a_nil))) (by decide) (by kernel_rfl!) (by kernel_rfl!)) (t_name nd rfl (by first | exact Or.inl (by kernel_rfl!) | exact Or.inr (by kernel_rfl!))))
 (s_cons (s_asgS (d_ifx (q_cmp (x_eqE hu64) (d_callC (ok__law_draw C) hgu (hr.mono (by decide)) (gl_of (by kernel_rfl!)) (a_cons (d_var (i := 0) rfl (by first | exact Or.inl (by kernel_rfl!) | exact Or.inr (Or.inl (by kernel_rfl!)) | exact Or.inr (Or.inr (by kernel_rfl!)))) (a_cons d_int a_nil)) (by decide) (by kernel_rfl!) (by kernel_rfl!)) d_int (nomark _)) (d_ix x_ix (d_var (i := 14) rfl (by first | exact Or.inl (by kernel_rfl!) | exact Or.inr (Or.inl (by kernel_rfl!)) | exact Or.inr (Or.inr (by kernel_rfl!)))) (d_un x_neg d_int) (fun _ _ => rfl)) (d_ix x_ix (d_var (i := 14) rfl (by first | exact Or.inl (by kernel_rfl!) | exact Or.inr (Or.inl (by kernel_rfl!)) | exact Or.inr (Or.inr (by kernel_rfl!)))) d_int (fun _ _ => rfl))) (k_tup rfl (ks_cons (k_DS hu1 (d_var (i := 6) rfl (by first | exact Or.inl (by kernel_rfl!) | exact Or.inr (Or.inl (by kernel_rfl!)) | exact Or.inr (Or.inr (by kernel_rfl!)))) (d_var (i := 12) rfl (by first | exact Or.inl (by kernel_rfl!) | exact Or.inr (Or.inl (by kernel_rfl!)) | exact Or.inr (Or.inr (by kernel_rfl!))))) (ks_cons (k_set nd rfl (by first | exact Or.inl (by kernel_rfl!) | exact Or.inr (by kernel_rfl!))) ks_nil)) (kCons_len (kCons_len kNil_len))))
 (s_cons (s_expr (d_mtS ms_append PySem.F.slot_list_append PySem.F.type_list_append mt_append (d_var (i := 7) rfl (by first | exact Or.inl (by kernel_rfl!) | exact Or.inr (Or.inl (by kernel_rfl!)) | exact Or.inr (Or.inr (by kernel_rfl!)))) (a_cons (d_getS hu1 (d_var (i := 5) rfl (by first | exact Or.inl (by kernel_rfl!) | exact Or.inr (Or.inl (by kernel_rfl!)) | exact Or.inr (Or.inr (by kernel_rfl!)))) (d_var (i := 12) rfl (by first | exact Or.inl (by kernel_rfl!) | exact Or.inr (Or.inl (by kernel_rfl!)) | exact Or.inr (Or.inr (by kernel_rfl!)))) (fun _ _ => rfl)) a_nil)))
 (s_cons (s_asg (d_ix x_ix (d_lst (a_cons (d_var (i := 13) rfl (by first | exact Or.inl (by kernel_rfl!) | exact Or.inr (Or.inl (by kernel_rfl!)) | exact Or.inr (Or.inr (by kernel_rfl!)))) (a_cons d_int a_nil))) (d_callTy x_int (gl_of (by kernel_rfl!)) C.b_int (by decide +kernel) (a_cons (d_cmp (x_eqE hu64) (d_var (i := 13) rfl (by first | exact Or.inl (by kernel_rfl!) | exact Or.inr (Or.inl (by kernel_rfl!)) | exact Or.inr (Or.inr (by kernel_rfl!)))) d_int (nomark _)) a_nil)) (fun _ _ => rfl)) (t_name nd rfl (by first | exact Or.inl (by kernel_rfl!) | exact Or.inr (by kernel_rfl!))))
 s_nil))))
s_nil)
 (s_cons (s_if (w_and (q_inS hu1 (d_var (i := 12) rfl (by first | exact Or.inl (by kernel_rfl!) | exact Or.inr (Or.inl (by kernel_rfl!)) | exact Or.inr (Or.inr (by kernel_rfl!)))) (d_var (i := 6) rfl (by first | exact Or.inl (by kernel_rfl!) | exact Or.inr (Or.inl (by kernel_rfl!)) | exact Or.inr (Or.inr (by kernel_rfl!))))) (w_and1 (q_cmp x_lt (d_var (i := 13) rfl (by first | exact Or.inl (by kernel_rfl!) | exact Or.inr (Or.inl (by kernel_rfl!)) | exact Or.inr (Or.inr (by kernel_rfl!)))) d_int (nomark _)))).pt
(s_cons (s_slS (d_lst (a_cons (d_dpopS (d_var (i := 6) rfl (by first | exact Or.inl (by kernel_rfl!) | exact Or.inr (Or.inl (by kernel_rfl!)) | exact Or.inr (Or.inr (by kernel_rfl!)))) (d_var (i := 12) rfl (by first | exact Or.inl (by kernel_rfl!) | exact Or.inr (Or.inl (by kernel_rfl!)) | exact Or.inr (Or.inr (by kernel_rfl!))))) (a_cons (d_ixS x_ix (d_ixS x_ix (d_var (i := 4) rfl (by first | exact Or.inl (by kernel_rfl!) | exact Or.inr (Or.inl (by kernel_rfl!)) | exact Or.inr (Or.inr (by kernel_rfl!)))) (d_getS hu1 (d_var (i := 5) rfl (by first | exact Or.inl (by kernel_rfl!) | exact Or.inr (Or.inl (by kernel_rfl!)) | exact Or.inr (Or.inr (by kernel_rfl!)))) (d_var (i := 12) rfl (by first | exact Or.inl (by kernel_rfl!) | exact Or.inr (Or.inl (by kernel_rfl!)) | exact Or.inr (Or.inr (by kernel_rfl!)))) (fun _ _ => rfl)) (fun _ _ => rfl)) d_int (fun _ _ => rfl)) (a_cons (d_var (i := 9) rfl (by first | exact Or.inl (by kernel_rfl!) | exact Or.inr (Or.inl (by kernel_rfl!)) | exact Or.inr (Or.inr (by kernel_rfl!)))) a_nil)))) (d_ixS x_ix (d_var (i := 4) rfl (by first | exact Or.inl (by kernel_rfl!) | exact Or.inr (Or.inl (by kernel_rfl!)) | exact Or.inr (Or.inr (by kernel_rfl!)))) (d_getS hu1 (d_var (i := 5) rfl (by first | exact Or.inl (by kernel_rfl!) | exact Or.inr (Or.inl (by kernel_rfl!)) | exact Or.inr (Or.inr (by kernel_rfl!)))) (d_var (i := 12) rfl (by first | exact Or.inl (by kernel_rfl!) | exact Or.inr (Or.inl (by kernel_rfl!)) | exact Or.inr (Or.inr (by kernel_rfl!)))) (fun _ _ => rfl)) (fun _ _ => rfl)) d_int)
 (s_cons (s_expr (d_dpopS (d_var (i := 5) rfl (by first | exact Or.inl (by kernel_rfl!) | exact Or.inr (Or.inl (by kernel_rfl!)) | exact Or.inr (Or.inr (by kernel_rfl!)))) (d_var (i := 12) rfl (by first | exact Or.inl (by kernel_rfl!) | exact Or.inr (Or.inl (by kernel_rfl!)) | exact Or.inr (Or.inr (by kernel_rfl!))))))
 (s_cons (s_asg (d_op x_addB (d_op x_addB (d_var (i := 9) rfl (by first | exact Or.inl (by kernel_rfl!) | exact Or.inr (Or.inl (by kernel_rfl!)) | exact Or.inr (Or.inr (by kernel_rfl!)))) d_int) (d_callC (ok__law_draw C) hgu (hr.mono (by decide)) (gl_of (by kernel_rfl!)) (a_cons (d_var (i := 0) rfl (by first | exact Or.inl (by kernel_rfl!) | exact Or.inr (Or.inl (by kernel_rfl!)) | exact Or.inr (Or.inr (by kernel_rfl!)))) (a_cons (d_var (i := 10) rfl (by first | exact Or.inl (by kernel_rfl!) | exact Or.inr (Or.inl (by kernel_rfl!)) | exact Or.inr (Or.inr (by kernel_rfl!)))) a_nil)) (by decide) (by kernel_rfl!) (by kernel_rfl!))) (t_name nd rfl (by first | exact Or.inl (by kernel_rfl!) | exact Or.inr (by kernel_rfl!))))
 s_nil)))
s_nil)
 s_nil)))) PassesOwn.never rfl)
 (s_cons (s_ret (d_tup (a_cons (d_callTy x_tuple (gl_of (by kernel_rfl!)) C.b_tuple (by decide +kernel) (a_cons (d_compG (own := [("_law_row", 15)]) (hc := rfl) (hN := nd) (hi := (g_l (d_var (i := 4) rfl (by first | exact Or.inl (by kernel_rfl!) | exact Or.inr (Or.inl (by kernel_rfl!)) | exact Or.inr (Or.inr (by kernel_rfl!)))))) (ok := blkOk_by (by kernel_rfl!)) (hg := fun _ _ _ _ _ => (t_name nd rfl (by first | exact Or.inl (by kernel_rfl!) | exact Or.inr (by kernel_rfl!)))) (ht := fun _ _ _ _ _ => q_nil) (he := fun _ _ _ _ _ => (d_callTyS x_tuple (gl_of (by kernel_rfl!)) C.b_tuple (by decide +kernel) (a_cons (d_var (i := 15) rfl (by first | exact Or.inl (by kernel_rfl!) | exact Or.inr (Or.inl (by kernel_rfl!)) | exact Or.inr (Or.inr (by kernel_rfl!)))) a_nil)))) a_nil)) (a_cons (d_callTyS x_tuple (gl_of (by kernel_rfl!)) C.b_tuple (by decide +kernel) (a_cons (d_var (i := 7) rfl (by first | exact Or.inl (by kernel_rfl!) | exact Or.inr (Or.inl (by kernel_rfl!)) | exact Or.inr (Or.inr (by kernel_rfl!)))) a_nil)) a_nil))))
 s_nil))))))
abbrev s__law_whole : Stmt := topS 14
theorem sc__law_whole : FnScope ["_law_thing"] ["_law_thing"] (defScope s__law_whole) := ⟨rfl, rfl, rfl, by decide +kernel, rfl, by decide +kernel, by decide +kernel⟩
theorem ok__law_whole (C : Fx P w K mg) : Cw P w K mg base 1 "_law_whole" 1 W30.F__law_whole :=
 cl_mk W30.body__law_whole 1 1 C.f__law_whole sc__law_whole rfl rfl (by decide) (fun _ _ _ _ _ _ us hl => match us, hl with | [_], _ => rfl) (fun f cdv A outer s H E hgu hr => by
 have hu64 := hr.units
 have hu1 := hu_of hr
 have hu100 := hu100_of hr
 have hu65 := hu65_of hr
 have nd := sc__law_whole.nd
 exact (s_cons (s_ret (d_and (d_callB x_isi (gl_of (by kernel_rfl!)) C.b_isinstance (by decide +kernel) (a_cons (d_var (i := 0) rfl (by first | exact Or.inl (by kernel_rfl!) | exact Or.inr (Or.inl (by kernel_rfl!)) | exact Or.inr (Or.inr (by kernel_rfl!)))) (a_cons (d_type (gl_of (by kernel_rfl!)) C.b_int (by decide +kernel)) a_nil))) (d_one (d_not (d_callB x_isi (gl_of (by kernel_rfl!)) C.b_isinstance (by decide +kernel) (a_cons (d_var (i := 0) rfl (by first | exact Or.inl (by kernel_rfl!) | exact Or.inr (Or.inl (by kernel_rfl!)) | exact Or.inr (Or.inr (by kernel_rfl!)))) (a_cons (d_type (gl_of (by kernel_rfl!)) C.b_bool (by decide +kernel)) a_nil)))))))
 s_nil))
abbrev s__law_odd : Stmt := topS 15
theorem sc__law_odd : FnScope ["_law_deck_here", "_law_part", "_law_some"] ["_law_deck_here", "_law_part"] (defScope s__law_odd) := ⟨rfl, rfl, rfl, by decide +kernel, rfl, by decide +kernel, by decide +kernel⟩
theorem ok__law_odd (C : Fx P w K mg) : Cw P w K mg base 3 "_law_odd" 2 W30.F__law_odd :=
 cl_mk W30.body__law_odd 2 3 C.f__law_odd sc__law_odd rfl rfl (by decide) (fun _ _ _ _ _ _ us hl => match us, hl with | [_, _], _ => rfl) (fun f cdv A outer s H E hgu hr => by
 have hu64 := hr.units
 have hu1 := hu_of hr
 have hu100 := hu100_of hr
 have hu65 := hu65_of hr
 have nd := sc__law_odd.nd
 exact (s_cons (s_asg (d_lst (a_cons d_non (a_cons d_bl (a_cons d_bl (a_cons d_int (a_cons d_int (a_cons (d_un x_neg d_int) (a_cons (d_op x_pow d_int d_int) (a_cons (d_op x_subB d_int (d_op x_pow d_int d_int)) (a_cons d_str (a_cons d_str (a_cons (d_tup a_nil) (a_cons (d_lst a_nil) (a_cons d_dict0 (a_cons (d_tup (a_cons d_non a_nil)) (a_cons (d_tup (a_cons (d_tup a_nil) a_nil)) (a_cons (d_lst (a_cons (d_var (i := 1) rfl (by first | exact Or.inl (by kernel_rfl!) | exact Or.inr (Or.inl (by kernel_rfl!)) | exact Or.inr (Or.inr (by kernel_rfl!)))) a_nil)) a_nil))))))))))))))))) (t_name nd rfl (by first | exact Or.inl (by kernel_rfl!) | exact Or.inr (by kernel_rfl!))))
 (s_cons (s_ret (d_callC (ok__law_pick C) hgu (hr.mono (by decide)) (gl_of (by kernel_rfl!)) (a_cons (d_var (i := 0) rfl (by first | exact Or.inl (by kernel_rfl!) | exact Or.inr (Or.inl (by kernel_rfl!)) | exact Or.inr (Or.inr (by kernel_rfl!)))) (a_cons (d_op x_addB (d_var (i := 2) rfl (by first | exact Or.inl (by kernel_rfl!) | exact Or.inr (Or.inl (by kernel_rfl!)) | exact Or.inr (Or.inr (by kernel_rfl!)))) (d_lst (a_cons (d_tup (a_cons (d_var (i := 1) rfl (by first | exact Or.inl (by kernel_rfl!) | exact Or.inr (Or.inl (by kernel_rfl!)) | exact Or.inr (Or.inr (by kernel_rfl!)))) a_nil)) (a_cons (d_disp (dp_consI (d_var (i := 1) rfl (by first | exact Or.inl (by kernel_rfl!) | exact Or.inr (Or.inl (by kernel_rfl!)) | exact Or.inr (Or.inr (by kernel_rfl!)))) dp_nil) (by kernel_rfl!) (by kernel_rfl!) (fun z => by cases z) (by decide) (by decide) (by decide +kernel)) (a_cons (d_tup (a_cons (d_var (i := 1) rfl (by first | exact Or.inl (by kernel_rfl!) | exact Or.inr (Or.inl (by kernel_rfl!)) | exact Or.inr (Or.inr (by kernel_rfl!)))) (a_cons (d_var (i := 1) rfl (by first | exact Or.inl (by kernel_rfl!) | exact Or.inr (Or.inl (by kernel_rfl!)) | exact Or.inr (Or.inr (by kernel_rfl!)))) a_nil))) (a_cons (d_tup (a_cons (d_tup (a_cons (d_tup (a_cons (d_tup (a_cons d_int a_nil)) a_nil)) a_nil)) a_nil)) a_nil)))))) a_nil)) (by decide) (by kernel_rfl!) (by kernel_rfl!)))
 s_nil)))
abbrev s__law_turned : Stmt := topS 16
theorem sc__law_turned : FnScope ["_law_deck_here", "_law_some", "_law_left", "_law_found"] ["_law_deck_here", "_law_some"] (defScope s__law_turned) := ⟨rfl, rfl, rfl, by decide +kernel, rfl, by decide +kernel, by decide +kernel⟩
theorem ok__law_turned (C : Fx P w K mg) : Cw P w K mg base 2 "_law_turned" 2 W30.F__law_turned :=
 cl_mk W30.body__law_turned 2 4 C.f__law_turned sc__law_turned rfl rfl (by decide) (fun _ _ _ _ _ _ us hl => match us, hl with | [_, _], _ => rfl) (fun f cdv A outer s H E hgu hr => by
 have hu64 := hr.units
 have hu1 := hu_of hr
 have hu100 := hu100_of hr
 have hu65 := hu65_of hr
 have nd := sc__law_turned.nd
 exact (s_cons (s_asg (d_listN (gl_of (by kernel_rfl!)) C.b_list (by decide +kernel) (d_var (i := 1) rfl (by first | exact Or.inl (by kernel_rfl!) | exact Or.inr (Or.inl (by kernel_rfl!)) | exact Or.inr (Or.inr (by kernel_rfl!))))) (t_name nd rfl (by first | exact Or.inl (by kernel_rfl!) | exact Or.inr (by kernel_rfl!))))
 (s_cons (s_ownL a_nil nd rfl (by first | exact Or.inl (by kernel_rfl!) | exact Or.inr (by kernel_rfl!)))
 (s_cons (s_while 10000 (q_cmpS (x_neE hu64) (d_var (i := 2) rfl (by first | exact Or.inl (by kernel_rfl!) | exact Or.inr (Or.inl (by kernel_rfl!)) | exact Or.inr (Or.inr (by kernel_rfl!)))) (d_lst a_nil) (nomark _))
(s_cons (s_app rfl (by first | exact Or.inl (by kernel_rfl!) | exact Or.inr (Or.inl (by kernel_rfl!)) | exact Or.inr (Or.inr (by kernel_rfl!))) (d_mtS ms_popAt PySem.F.slot_list_pop PySem.F.type_list_pop mt_popAt (d_var (i := 2) rfl (by first | exact Or.inl (by kernel_rfl!) | exact Or.inr (Or.inl (by kernel_rfl!)) | exact Or.inr (Or.inr (by kernel_rfl!)))) (a_cons (d_callC (ok__law_draw C) hgu (hr.mono (by decide)) (gl_of (by kernel_rfl!)) (a_cons (d_var (i := 0) rfl (by first | exact Or.inl (by kernel_rfl!) | exact Or.inr (Or.inl (by kernel_rfl!)) | exact Or.inr (Or.inr (by kernel_rfl!)))) (a_cons (d_callBS x_len (gl_of (by kernel_rfl!)) C.b_len (by decide +kernel) (a_cons (d_var (i := 2) rfl (by first | exact Or.inl (by kernel_rfl!) | exact Or.inr (Or.inl (by kernel_rfl!)) | exact Or.inr (Or.inr (by kernel_rfl!)))) a_nil)) a_nil)) (by decide) (by kernel_rfl!) (by kernel_rfl!)) a_nil)))
 s_nil) PassesOwn.never)
 (s_cons (s_ret (d_var (i := 3) rfl (by first | exact Or.inl (by kernel_rfl!) | exact Or.inr (Or.inl (by kernel_rfl!)) | exact Or.inr (Or.inr (by kernel_rfl!)))))
 s_nil)))))
abbrev s__law_due : Stmt := topS 17
theorem sc__law_due : FnScope ["_law_history_here", "_law_order", "_law_thing", "_law_rows", "_law_number", "_law_one", "_law_row"] ["_law_history_here", "_law_order", "_law_thing"] (defScope s__law_due) := ⟨rfl, rfl, rfl, by decide +kernel, rfl, by decide +kernel, by decide +kernel⟩
theorem ok__law_due (C : Fx P w K mg) : Cw P w K mg base 2 "_law_due" 3 W30.F__law_due :=
 cl_mk W30.body__law_due 3 7 C.f__law_due sc__law_due rfl rfl (by decide) (fun _ _ _ _ _ _ us hl => match us, hl with | [_, _, _], _ => rfl) (fun f cdv A outer s H E hgu hr => by
 have hu64 := hr.units
 have hu1 := hu_of hr
 have hu100 := hu100_of hr
 have hu65 := hu65_of hr
 have nd := sc__law_due.nd
 exact (s_cons (s_if (w_or (q_not (q_val (d_callB x_isi (gl_of (by kernel_rfl!)) C.b_isinstance (by decide +kernel) (a_cons (d_var (i := 2) rfl (by first | exact Or.inl (by kernel_rfl!) | exact Or.inr (Or.inl (by kernel_rfl!)) | exact Or.inr (Or.inr (by kernel_rfl!)))) (a_cons (d_type (gl_of (by kernel_rfl!)) C.b_tuple (by decide +kernel)) a_nil))))) (w_or1 (q_cmp (x_neE hu64) (d_callB x_len (gl_of (by kernel_rfl!)) C.b_len (by decide +kernel) (a_cons (d_var (i := 2) rfl (by first | exact Or.inl (by kernel_rfl!) | exact Or.inr (Or.inl (by kernel_rfl!)) | exact Or.inr (Or.inr (by kernel_rfl!)))) a_nil)) (d_callB x_len (gl_of (by kernel_rfl!)) C.b_len (by decide +kernel) (a_cons (d_var (i := 1) rfl (by first | exact Or.inl (by kernel_rfl!) | exact Or.inr (Or.inl (by kernel_rfl!)) | exact Or.inr (Or.inr (by kernel_rfl!)))) a_nil)) (nomark _)))).pt
(s_cons (s_ret d_bl)
 s_nil)
s_nil)
 (s_cons (s_if (q_cmp (x_neE hu64) (d_comp (own := [("_law_one", 5)]) (hc := rfl) (hN := nd) (hi := (i_src (d_var (i := 2) rfl (by first | exact Or.inl (by kernel_rfl!) | exact Or.inr (Or.inl (by kernel_rfl!)) | exact Or.inr (Or.inr (by kernel_rfl!)))))) (ok := blkOk_by (by kernel_rfl!)) (hg := fun _ _ _ _ _ => (t_name nd rfl (by first | exact Or.inl (by kernel_rfl!) | exact Or.inr (by kernel_rfl!)))) (ht := fun _ _ _ _ _ => (q_one (q_not (q_val (d_callC (ok__law_whole C) hgu (hr.mono (by decide)) (gl_of (by kernel_rfl!)) (a_cons (d_var (i := 5) rfl (by first | exact Or.inl (by kernel_rfl!) | exact Or.inr (Or.inl (by kernel_rfl!)) | exact Or.inr (Or.inr (by kernel_rfl!)))) a_nil) (by decide) (by kernel_rfl!) (by kernel_rfl!)))))) (he := fun _ _ _ _ _ => (d_var (i := 5) rfl (by first | exact Or.inl (by kernel_rfl!) | exact Or.inr (Or.inl (by kernel_rfl!)) | exact Or.inr (Or.inr (by kernel_rfl!)))))) (d_lst a_nil) (nomark _))
(s_cons (s_ret d_bl)
 s_nil)
s_nil)
 (s_cons (s_if (q_cmp (x_neE hu64) (d_callTy (x_listT rfl) (gl_of (by kernel_rfl!)) C.b_list (by decide +kernel) (a_cons (d_var (i := 2) rfl (by first | exact Or.inl (by kernel_rfl!) | exact Or.inr (Or.inl (by kernel_rfl!)) | exact Or.inr (Or.inr (by kernel_rfl!)))) a_nil)) (d_callB (x_sortedE rfl) (gl_of (by kernel_rfl!)) C.b_sorted (by decide +kernel) (a_cons (d_var (i := 2) rfl (by first | exact Or.inl (by kernel_rfl!) | exact Or.inr (Or.inl (by kernel_rfl!)) | exact Or.inr (Or.inr (by kernel_rfl!)))) a_nil)) (nomark _))
(s_cons (s_ret d_bl)
 s_nil)
s_nil)
 (s_cons (s_comp (hy := rfl) (hyl := by kernel_rfl!) (hsw := by kernel_rfl!) (own := [("_law_number", 4)]) (hc := rfl) (hN := nd) (hi := (i_src (d_var (i := 1) rfl (by first | exact Or.inl (by kernel_rfl!) | exact Or.inr (Or.inl (by kernel_rfl!)) | exact Or.inr (Or.inr (by kernel_rfl!)))))) (ok := blkOk_by (by kernel_rfl!)) (hg := fun _ _ _ _ _ => (t_name nd rfl (by first | exact Or.inl (by kernel_rfl!) | exact Or.inr (by kernel_rfl!)))) (ht := fun _ _ _ _ _ => q_nil) (he := fun _ _ _ _ _ => (d_ix x_ix (d_var (i := 0) rfl (by first | exact Or.inl (by kernel_rfl!) | exact Or.inr (Or.inl (by kernel_rfl!)) | exact Or.inr (Or.inr (by kernel_rfl!)))) (d_var (i := 4) rfl (by first | exact Or.inl (by kernel_rfl!) | exact Or.inr (Or.inl (by kernel_rfl!)) | exact Or.inr (Or.inr (by kernel_rfl!)))) (fun _ _ => rfl))))
 (s_cons (s_ret (d_cmp (x_eqE hu64) (d_comp (own := [("_law_row", 6), ("_law_one", 5)]) (hc := rfl) (hN := nd) (hi := (i_zipG (gl_of (by kernel_rfl!)) C.b_zip (a_cons (d_var (i := 3) rfl (by first | exact Or.inl (by kernel_rfl!) | exact Or.inr (Or.inl (by kernel_rfl!)) | exact Or.inr (Or.inr (by kernel_rfl!)))) (a_cons (d_var (i := 2) rfl (by first | exact Or.inl (by kernel_rfl!) | exact Or.inr (Or.inl (by kernel_rfl!)) | exact Or.inr (Or.inr (by kernel_rfl!)))) a_nil)))) (ok := blkOk_by (by kernel_rfl!)) (hg := fun _ _ _ _ _ => (t_pair rfl (t_name nd rfl (by first | exact Or.inl (by kernel_rfl!) | exact Or.inr (by kernel_rfl!))) (t_name nd rfl (by first | exact Or.inl (by kernel_rfl!) | exact Or.inr (by kernel_rfl!))))) (ht := fun _ _ _ _ _ => (q_one (w_or (q_cmp x_lt (d_var (i := 5) rfl (by first | exact Or.inl (by kernel_rfl!) | exact Or.inr (Or.inl (by kernel_rfl!)) | exact Or.inr (Or.inr (by kernel_rfl!)))) (d_ix x_ix (d_var (i := 6) rfl (by first | exact Or.inl (by kernel_rfl!) | exact Or.inr (Or.inl (by kernel_rfl!)) | exact Or.inr (Or.inr (by kernel_rfl!)))) d_int (fun _ _ => rfl)) (nomark _)) (w_or1 (w_and (q_cmp x_isnot (d_ix x_ix (d_var (i := 6) rfl (by first | exact Or.inl (by kernel_rfl!) | exact Or.inr (Or.inl (by kernel_rfl!)) | exact Or.inr (Or.inr (by kernel_rfl!)))) d_int (fun _ _ => rfl)) d_non (nomark _)) (w_and1 (q_cmp x_gt (d_var (i := 5) rfl (by first | exact Or.inl (by kernel_rfl!) | exact Or.inr (Or.inl (by kernel_rfl!)) | exact Or.inr (Or.inr (by kernel_rfl!)))) (d_ix x_ix (d_var (i := 6) rfl (by first | exact Or.inl (by kernel_rfl!) | exact Or.inr (Or.inl (by kernel_rfl!)) | exact Or.inr (Or.inr (by kernel_rfl!)))) d_int (fun _ _ => rfl)) (nomark _)))).pt)).pt)) (he := fun _ _ _ _ _ => d_int)) (d_lst a_nil) (nomark _)))
 s_nil))))))
abbrev s__law_latest : Stmt := topS 18
theorem sc__law_latest : FnScope ["_law_history_here", "_law_order", "_law_far", "_law_found", "_law_here", "_law_number", "_law_ended"] ["_law_history_here", "_law_order", "_law_far"] (defScope s__law_latest) := ⟨rfl, rfl, rfl, by decide +kernel, rfl, by decide +kernel, by decide +kernel⟩
theorem ok__law_latest (C : Fx P w K mg) : Cw P w K mg base 1 "_law_latest" 3 W30.F__law_latest :=
 cl_mk W30.body__law_latest 3 7 C.f__law_latest sc__law_latest rfl rfl (by decide) (fun _ _ _ _ _ _ us hl => match us, hl with | [_, _, _], _ => rfl) (fun f cdv A outer s H E hgu hr => by
 have hu64 := hr.units
 have hu1 := hu_of hr
 have hu100 := hu100_of hr
 have hu65 := hu65_of hr
 have nd := sc__law_latest.nd
 exact (s_cons (s_asg (d_newL a_nil) (t_name nd rfl (by first | exact Or.inl (by kernel_rfl!) | exact Or.inr (by kernel_rfl!))))
 (s_cons (s_asg (d_var (i := 2) rfl (by first | exact Or.inl (by kernel_rfl!) | exact Or.inr (Or.inl (by kernel_rfl!)) | exact Or.inr (Or.inr (by kernel_rfl!)))) (t_name nd rfl (by first | exact Or.inl (by kernel_rfl!) | exact Or.inr (by kernel_rfl!))))
 (s_cons (s_for (i_src (d_rev (d_var (i := 1) rfl (by first | exact Or.inl (by kernel_rfl!) | exact Or.inr (Or.inl (by kernel_rfl!)) | exact Or.inr (Or.inr (by kernel_rfl!)))))) (t_name nd rfl (by first | exact Or.inl (by kernel_rfl!) | exact Or.inr (by kernel_rfl!)))
(s_cons (s_asg (d_ix x_ix (d_ix x_ix (d_var (i := 0) rfl (by first | exact Or.inl (by kernel_rfl!) | exact Or.inr (Or.inl (by kernel_rfl!)) | exact Or.inr (Or.inr (by kernel_rfl!)))) (d_var (i := 5) rfl (by first | exact Or.inl (by kernel_rfl!) | exact Or.inr (Or.inl (by kernel_rfl!)) | exact Or.inr (Or.inr (by kernel_rfl!)))) (fun _ _ => rfl)) d_int (fun _ _ => rfl)) (t_name nd rfl (by first | exact Or.inl (by kernel_rfl!) | exact Or.inr (by kernel_rfl!))))
 (s_cons (s_asg (d_ifx (q_cmp x_is (d_var (i := 6) rfl (by first | exact Or.inl (by kernel_rfl!) | exact Or.inr (Or.inl (by kernel_rfl!)) | exact Or.inr (Or.inr (by kernel_rfl!)))) d_non (nomark _)) (d_var (i := 4) rfl (by first | exact Or.inl (by kernel_rfl!) | exact Or.inr (Or.inl (by kernel_rfl!)) | exact Or.inr (Or.inr (by kernel_rfl!)))) (d_callB (x_min2 rfl) (gl_of (by kernel_rfl!)) C.b_min (by decide +kernel) (a_cons (d_var (i := 4) rfl (by first | exact Or.inl (by kernel_rfl!) | exact Or.inr (Or.inl (by kernel_rfl!)) | exact Or.inr (Or.inr (by kernel_rfl!)))) (a_cons (d_var (i := 6) rfl (by first | exact Or.inl (by kernel_rfl!) | exact Or.inr (Or.inl (by kernel_rfl!)) | exact Or.inr (Or.inr (by kernel_rfl!)))) a_nil)))) (t_name nd rfl (by first | exact Or.inl (by kernel_rfl!) | exact Or.inr (by kernel_rfl!))))
 (s_cons (s_expr (d_mtS ms_append PySem.F.slot_list_append PySem.F.type_list_append mt_append (d_var (i := 3) rfl (by first | exact Or.inl (by kernel_rfl!) | exact Or.inr (Or.inl (by kernel_rfl!)) | exact Or.inr (Or.inr (by kernel_rfl!)))) (a_cons (d_var (i := 4) rfl (by first | exact Or.inl (by kernel_rfl!) | exact Or.inr (Or.inl (by kernel_rfl!)) | exact Or.inr (Or.inr (by kernel_rfl!)))) a_nil)))
 s_nil))) PassesOwn.never rfl)
 (s_cons (s_ret (d_revS (d_var (i := 3) rfl (by first | exact Or.inl (by kernel_rfl!) | exact Or.inr (Or.inl (by kernel_rfl!)) | exact Or.inr (Or.inr (by kernel_rfl!))))))
 s_nil)))))
abbrev s__law_steps : Stmt := topS 19
theorem sc__law_steps : FnScope ["_law_deck_here", "_law_history_here", "_law_order", "_law_way", "_law_least", "_law_most", "_law_found", "_law_here", "_law_low", "_law_high", "_law_at", "_law_one"] ["_law_deck_here", "_law_history_here", "_law_order"] (defScope s__law_steps) := ⟨rfl, rfl, rfl, by decide +kernel, rfl, by decide +kernel, by decide +kernel⟩
theorem ok__law_steps (C : Fx P w K mg) : Cw P w K mg base 2 "_law_steps" 3 W30.F__law_steps :=
 cl_mk W30.body__law_steps 3 12 C.f__law_steps sc__law_steps rfl rfl (by decide) (fun _ _ _ _ _ _ us hl => match us, hl with | [_, _, _], _ => rfl) (fun f cdv A outer s H E hgu hr => by
 have hu64 := hr.units
 have hu1 := hu_of hr
 have hu100 := hu100_of hr
 have hu65 := hu65_of hr
 have nd := sc__law_steps.nd
 exact (s_cons (s_asg (d_callC (ok__law_draw C) hgu (hr.mono (by decide)) (gl_of (by kernel_rfl!)) (a_cons (d_var (i := 0) rfl (by first | exact Or.inl (by kernel_rfl!) | exact Or.inr (Or.inl (by kernel_rfl!)) | exact Or.inr (Or.inr (by kernel_rfl!)))) (a_cons d_int a_nil)) (by decide) (by kernel_rfl!) (by kernel_rfl!)) (t_name nd rfl (by first | exact Or.inl (by kernel_rfl!) | exact Or.inr (by kernel_rfl!))))
 (s_cons (s_comp (hy := rfl) (hyl := by kernel_rfl!) (hsw := by kernel_rfl!) (own := [("_law_at", 10)]) (hc := rfl) (hN := nd) (hi := (i_range1 (gl_of (by kernel_rfl!)) C.b_range (a_cons (d_callB x_len (gl_of (by kernel_rfl!)) C.b_len (by decide +kernel) (a_cons (d_var (i := 2) rfl (by first | exact Or.inl (by kernel_rfl!) | exact Or.inr (Or.inl (by kernel_rfl!)) | exact Or.inr (Or.inr (by kernel_rfl!)))) a_nil)) a_nil))) (ok := blkOk_by (by kernel_rfl!)) (hg := fun _ _ _ _ _ => (t_name nd rfl (by first | exact Or.inl (by kernel_rfl!) | exact Or.inr (by kernel_rfl!)))) (ht := fun _ _ _ _ _ => q_nil) (he := fun _ _ _ _ _ => (d_callB (x_maxL rfl) (gl_of (by kernel_rfl!)) C.b_max (by decide +kernel) (a_cons (d_comp (own := [("_law_one", 11)]) (hc := rfl) (hN := nd) (hi := (i_src (d_slice (d_var (i := 2) rfl (by first | exact Or.inl (by kernel_rfl!) | exact Or.inr (Or.inl (by kernel_rfl!)) | exact Or.inr (Or.inr (by kernel_rfl!)))) o_none (o_some (d_op x_addB (d_var (i := 10) rfl (by first | exact Or.inl (by kernel_rfl!) | exact Or.inr (Or.inl (by kernel_rfl!)) | exact Or.inr (Or.inr (by kernel_rfl!)))) d_int))))) (ok := blkOk_by (by kernel_rfl!)) (hg := fun _ _ _ _ _ => (t_name nd rfl (by first | exact Or.inl (by kernel_rfl!) | exact Or.inr (by kernel_rfl!)))) (ht := fun _ _ _ _ _ => q_nil) (he := fun _ _ _ _ _ => (d_ix x_ix (d_ix x_ix (d_var (i := 1) rfl (by first | exact Or.inl (by kernel_rfl!) | exact Or.inr (Or.inl (by kernel_rfl!)) | exact Or.inr (Or.inr (by kernel_rfl!)))) (d_var (i := 11) rfl (by first | exact Or.inl (by kernel_rfl!) | exact Or.inr (Or.inl (by kernel_rfl!)) | exact Or.inr (Or.inr (by kernel_rfl!)))) (fun _ _ => rfl)) d_int (fun _ _ => rfl)))) a_nil))))
 (s_cons (s_asg (d_callC (ok__law_latest C) hgu (hr.mono (by decide)) (gl_of (by kernel_rfl!)) (a_cons (d_var (i := 1) rfl (by first | exact Or.inl (by kernel_rfl!) | exact Or.inr (Or.inl (by kernel_rfl!)) | exact Or.inr (Or.inr (by kernel_rfl!)))) (a_cons (d_var (i := 2) rfl (by first | exact Or.inl (by kernel_rfl!) | exact Or.inr (Or.inl (by kernel_rfl!)) | exact Or.inr (Or.inr (by kernel_rfl!)))) (a_cons d_int a_nil))) (by decide) (by kernel_rfl!) (by kernel_rfl!)) (t_name nd rfl (by first | exact Or.inl (by kernel_rfl!) | exact Or.inr (by kernel_rfl!))))
 (s_cons (s_asg (d_ix x_ix (d_lst (a_cons (d_var (i := 4) rfl (by first | exact Or.inl (by kernel_rfl!) | exact Or.inr (Or.inl (by kernel_rfl!)) | exact Or.inr (Or.inr (by kernel_rfl!)))) (a_cons (d_var (i := 5) rfl (by first | exact Or.inl (by kernel_rfl!) | exact Or.inr (Or.inl (by kernel_rfl!)) | exact Or.inr (Or.inr (by kernel_rfl!)))) (a_cons (d_newL a_nil) a_nil)))) (d_var (i := 3) rfl (by first | exact Or.inl (by kernel_rfl!) | exact Or.inr (Or.inl (by kernel_rfl!)) | exact Or.inr (Or.inr (by kernel_rfl!)))) (fun _ _ => rfl)) (t_name nd rfl (by first | exact Or.inl (by kernel_rfl!) | exact Or.inr (by kernel_rfl!))))
 (s_cons (s_asg d_int (t_name nd rfl (by first | exact Or.inl (by kernel_rfl!) | exact Or.inr (by kernel_rfl!))))
 (s_cons (s_for (i_src (d_op x_mulB (d_listZ rfl (gl_of (by kernel_rfl!)) C.b_list (gl_of (by kernel_rfl!)) C.b_zip (a_cons (d_var (i := 4) rfl (by first | exact Or.inl (by kernel_rfl!) | exact Or.inr (Or.inl (by kernel_rfl!)) | exact Or.inr (Or.inr (by kernel_rfl!)))) (a_cons (d_var (i := 5) rfl (by first | exact Or.inl (by kernel_rfl!) | exact Or.inr (Or.inl (by kernel_rfl!)) | exact Or.inr (Or.inr (by kernel_rfl!)))) a_nil))) (d_callTy x_int (gl_of (by kernel_rfl!)) C.b_int (by decide +kernel) (a_cons (d_cmp (x_eqE hu64) (d_var (i := 3) rfl (by first | exact Or.inl (by kernel_rfl!) | exact Or.inr (Or.inl (by kernel_rfl!)) | exact Or.inr (Or.inr (by kernel_rfl!)))) d_int (nomark _)) a_nil)))) (t_pair rfl (t_name nd rfl (by first | exact Or.inl (by kernel_rfl!) | exact Or.inr (by kernel_rfl!))) (t_name nd rfl (by first | exact Or.inl (by kernel_rfl!) | exact Or.inr (by kernel_rfl!))))
(s_cons (s_asg (d_op x_addB (d_callB (x_max2 rfl) (gl_of (by kernel_rfl!)) C.b_max (by decide +kernel) (a_cons (d_var (i := 7) rfl (by first | exact Or.inl (by kernel_rfl!) | exact Or.inr (Or.inl (by kernel_rfl!)) | exact Or.inr (Or.inr (by kernel_rfl!)))) (a_cons (d_var (i := 8) rfl (by first | exact Or.inl (by kernel_rfl!) | exact Or.inr (Or.inl (by kernel_rfl!)) | exact Or.inr (Or.inr (by kernel_rfl!)))) a_nil))) (d_callC (ok__law_draw C) hgu (hr.mono (by decide)) (gl_of (by kernel_rfl!)) (a_cons (d_var (i := 0) rfl (by first | exact Or.inl (by kernel_rfl!) | exact Or.inr (Or.inl (by kernel_rfl!)) | exact Or.inr (Or.inr (by kernel_rfl!)))) (a_cons (d_op x_addB (d_op x_subB (d_var (i := 9) rfl (by first | exact Or.inl (by kernel_rfl!) | exact Or.inr (Or.inl (by kernel_rfl!)) | exact Or.inr (Or.inr (by kernel_rfl!)))) (d_callB (x_max2 rfl) (gl_of (by kernel_rfl!)) C.b_max (by decide +kernel) (a_cons (d_var (i := 7) rfl (by first | exact Or.inl (by kernel_rfl!) | exact Or.inr (Or.inl (by kernel_rfl!)) | exact Or.inr (Or.inr (by kernel_rfl!)))) (a_cons (d_var (i := 8) rfl (by first | exact Or.inl (by kernel_rfl!) | exact Or.inr (Or.inl (by kernel_rfl!)) | exact Or.inr (Or.inr (by kernel_rfl!)))) a_nil)))) d_int) a_nil)) (by decide) (by kernel_rfl!) (by kernel_rfl!))) (t_name nd rfl (by first | exact Or.inl (by kernel_rfl!) | exact Or.inr (by kernel_rfl!))))
 (s_cons (s_expr (d_mtS ms_append PySem.F.slot_list_append PySem.F.type_list_append mt_append (d_var (i := 6) rfl (by first | exact Or.inl (by kernel_rfl!) | exact Or.inr (Or.inl (by kernel_rfl!)) | exact Or.inr (Or.inr (by kernel_rfl!)))) (a_cons (d_var (i := 7) rfl (by first | exact Or.inl (by kernel_rfl!) | exact Or.inr (Or.inl (by kernel_rfl!)) | exact Or.inr (Or.inr (by kernel_rfl!)))) a_nil)))
 s_nil)) PassesOwn.never rfl)
 (s_cons (s_ret (d_callTyS x_tuple (gl_of (by kernel_rfl!)) C.b_tuple (by decide +kernel) (a_cons (d_var (i := 6) rfl (by first | exact Or.inl (by kernel_rfl!) | exact Or.inr (Or.inl (by kernel_rfl!)) | exact Or.inr (Or.inr (by kernel_rfl!)))) a_nil)))
 s_nil))))))))
abbrev s__law_spoilt : Stmt := topS 20
theorem sc__law_spoilt : FnScope ["_law_deck_here", "_law_history_here", "_law_order", "_law_steps_here", "_law_way", "_law_at", "_law_row", "_law_here", "_law_some"] ["_law_deck_here", "_law_history_here", "_law_order", "_law_steps_here"] (defScope s__law_spoilt) := ⟨rfl, rfl, rfl, by decide +kernel, rfl, by decide +kernel, by decide +kernel⟩
theorem ok__law_spoilt (C : Fx P w K mg) : Cw P w K mg base 4 "_law_spoilt" 4 W30.F__law_spoilt :=
 cl_mk W30.body__law_spoilt 4 9 C.f__law_spoilt sc__law_spoilt rfl rfl (by decide) (fun _ _ _ _ _ _ us hl => match us, hl with | [_, _, _, _], _ => rfl) (fun f cdv A outer s H E hgu hr => by
 have hu64 := hr.units
 have hu1 := hu_of hr
 have hu100 := hu100_of hr
 have hu65 := hu65_of hr
 have nd := sc__law_spoilt.nd
 exact (s_cons (s_asg (d_callC (ok__law_draw C) hgu (hr.mono (by decide)) (gl_of (by kernel_rfl!)) (a_cons (d_var (i := 0) rfl (by first | exact Or.inl (by kernel_rfl!) | exact Or.inr (Or.inl (by kernel_rfl!)) | exact Or.inr (Or.inr (by kernel_rfl!)))) (a_cons d_int a_nil)) (by decide) (by kernel_rfl!) (by kernel_rfl!)) (t_name nd rfl (by first | exact Or.inl (by kernel_rfl!) | exact Or.inr (by kernel_rfl!))))
 (s_cons (s_if (w_or (q_cmp (x_eqE hu64) (d_var (i := 3) rfl (by first | exact Or.inl (by kernel_rfl!) | exact Or.inr (Or.inl (by kernel_rfl!)) | exact Or.inr (Or.inr (by kernel_rfl!)))) (d_tup a_nil) (nomark _)) (w_or1 (q_cmp (x_eqE hu64) (d_var (i := 4) rfl (by first | exact Or.inl (by kernel_rfl!) | exact Or.inr (Or.inl (by kernel_rfl!)) | exact Or.inr (Or.inr (by kernel_rfl!)))) d_int (nomark _)))).pt
(s_cons (s_ret (d_callC (ok__law_odd C) hgu (hr.mono (by decide)) (gl_of (by kernel_rfl!)) (a_cons (d_var (i := 0) rfl (by first | exact Or.inl (by kernel_rfl!) | exact Or.inr (Or.inl (by kernel_rfl!)) | exact Or.inr (Or.inr (by kernel_rfl!)))) (a_cons (d_var (i := 3) rfl (by first | exact Or.inl (by kernel_rfl!) | exact Or.inr (Or.inl (by kernel_rfl!)) | exact Or.inr (Or.inr (by kernel_rfl!)))) a_nil)) (by decide) (by kernel_rfl!) (by kernel_rfl!)))
 s_nil)
s_nil)
 (s_cons (s_asg (d_callC (ok__law_draw C) hgu (hr.mono (by decide)) (gl_of (by kernel_rfl!)) (a_cons (d_var (i := 0) rfl (by first | exact Or.inl (by kernel_rfl!) | exact Or.inr (Or.inl (by kernel_rfl!)) | exact Or.inr (Or.inr (by kernel_rfl!)))) (a_cons (d_callB x_len (gl_of (by kernel_rfl!)) C.b_len (by decide +kernel) (a_cons (d_var (i := 3) rfl (by first | exact Or.inl (by kernel_rfl!) | exact Or.inr (Or.inl (by kernel_rfl!)) | exact Or.inr (Or.inr (by kernel_rfl!)))) a_nil)) a_nil)) (by decide) (by kernel_rfl!) (by kernel_rfl!)) (t_name nd rfl (by first | exact Or.inl (by kernel_rfl!) | exact Or.inr (by kernel_rfl!))))
 (s_cons (s_asg (d_ix x_ix (d_var (i := 1) rfl (by first | exact Or.inl (by kernel_rfl!) | exact Or.inr (Or.inl (by kernel_rfl!)) | exact Or.inr (Or.inr (by kernel_rfl!)))) (d_ix x_ix (d_var (i := 2) rfl (by first | exact Or.inl (by kernel_rfl!) | exact Or.inr (Or.inl (by kernel_rfl!)) | exact Or.inr (Or.inr (by kernel_rfl!)))) (d_var (i := 5) rfl (by first | exact Or.inl (by kernel_rfl!) | exact Or.inr (Or.inl (by kernel_rfl!)) | exact Or.inr (Or.inr (by kernel_rfl!)))) (fun _ _ => rfl)) (fun _ _ => rfl)) (t_name nd rfl (by first | exact Or.inl (by kernel_rfl!) | exact Or.inr (by kernel_rfl!))))
 (s_cons (s_asg (d_ix x_ix (d_var (i := 3) rfl (by first | exact Or.inl (by kernel_rfl!) | exact Or.inr (Or.inl (by kernel_rfl!)) | exact Or.inr (Or.inr (by kernel_rfl!)))) (d_var (i := 5) rfl (by first | exact Or.inl (by kernel_rfl!) | exact Or.inr (Or.inl (by kernel_rfl!)) | exact Or.inr (Or.inr (by kernel_rfl!)))) (fun _ _ => rfl)) (t_name nd rfl (by first | exact Or.inl (by kernel_rfl!) | exact Or.inr (by kernel_rfl!))))
 (s_cons (s_asg (d_lst (a_cons (d_op x_subB (d_var (i := 7) rfl (by first | exact Or.inl (by kernel_rfl!) | exact Or.inr (Or.inl (by kernel_rfl!)) | exact Or.inr (Or.inr (by kernel_rfl!)))) d_int) (a_cons (d_op x_addB (d_var (i := 7) rfl (by first | exact Or.inl (by kernel_rfl!) | exact Or.inr (Or.inl (by kernel_rfl!)) | exact Or.inr (Or.inr (by kernel_rfl!)))) d_int) (a_cons (d_op x_subB (d_ix x_ix (d_var (i := 6) rfl (by first | exact Or.inl (by kernel_rfl!) | exact Or.inr (Or.inl (by kernel_rfl!)) | exact Or.inr (Or.inr (by kernel_rfl!)))) d_int (fun _ _ => rfl)) d_int) (a_cons (d_ix x_ix (d_var (i := 6) rfl (by first | exact Or.inl (by kernel_rfl!) | exact Or.inr (Or.inl (by kernel_rfl!)) | exact Or.inr (Or.inr (by kernel_rfl!)))) d_int (fun _ _ => rfl)) (a_cons (d_op x_pow d_int d_int) (a_cons (d_un x_neg d_int) (a_cons (d_cmp (x_eqE hu64) (d_var (i := 7) rfl (by first | exact Or.inl (by kernel_rfl!) | exact Or.inr (Or.inl (by kernel_rfl!)) | exact Or.inr (Or.inr (by kernel_rfl!)))) d_int (nomark _)) (a_cons (d_callC (ok__law_odd C) hgu (hr.mono (by decide)) (gl_of (by kernel_rfl!)) (a_cons (d_var (i := 0) rfl (by first | exact Or.inl (by kernel_rfl!) | exact Or.inr (Or.inl (by kernel_rfl!)) | exact Or.inr (Or.inr (by kernel_rfl!)))) (a_cons (d_var (i := 7) rfl (by first | exact Or.inl (by kernel_rfl!) | exact Or.inr (Or.inl (by kernel_rfl!)) | exact Or.inr (Or.inr (by kernel_rfl!)))) a_nil)) (by decide) (by kernel_rfl!) (by kernel_rfl!)) a_nil))))))))) (t_name nd rfl (by first | exact Or.inl (by kernel_rfl!) | exact Or.inr (by kernel_rfl!))))
 (s_cons (s_asg (d_op x_addB (d_var (i := 8) rfl (by first | exact Or.inl (by kernel_rfl!) | exact Or.inr (Or.inl (by kernel_rfl!)) | exact Or.inr (Or.inr (by kernel_rfl!)))) (d_lst (a_cons (d_ifx (q_cmp x_is (d_ix x_ix (d_var (i := 6) rfl (by first | exact Or.inl (by kernel_rfl!) | exact Or.inr (Or.inl (by kernel_rfl!)) | exact Or.inr (Or.inr (by kernel_rfl!)))) d_int (fun _ _ => rfl)) d_non (nomark _)) (d_var (i := 7) rfl (by first | exact Or.inl (by kernel_rfl!) | exact Or.inr (Or.inl (by kernel_rfl!)) | exact Or.inr (Or.inr (by kernel_rfl!)))) (d_op x_addB (d_ix x_ix (d_var (i := 6) rfl (by first | exact Or.inl (by kernel_rfl!) | exact Or.inr (Or.inl (by kernel_rfl!)) | exact Or.inr (Or.inr (by kernel_rfl!)))) d_int (fun _ _ => rfl)) d_int)) a_nil))) (t_name nd rfl (by first | exact Or.inl (by kernel_rfl!) | exact Or.inr (by kernel_rfl!))))
 (s_cons (s_if (q_cmp x_lt (d_var (i := 4) rfl (by first | exact Or.inl (by kernel_rfl!) | exact Or.inr (Or.inl (by kernel_rfl!)) | exact Or.inr (Or.inr (by kernel_rfl!)))) d_int (nomark _))
(s_cons (s_ret (d_op x_addB (d_op x_addB (d_slice (d_var (i := 3) rfl (by first | exact Or.inl (by kernel_rfl!) | exact Or.inr (Or.inl (by kernel_rfl!)) | exact Or.inr (Or.inr (by kernel_rfl!)))) o_none (o_some (d_var (i := 5) rfl (by first | exact Or.inl (by kernel_rfl!) | exact Or.inr (Or.inl (by kernel_rfl!)) | exact Or.inr (Or.inr (by kernel_rfl!)))))) (d_tup (a_cons (d_callC (ok__law_pick C) hgu (hr.mono (by decide)) (gl_of (by kernel_rfl!)) (a_cons (d_var (i := 0) rfl (by first | exact Or.inl (by kernel_rfl!) | exact Or.inr (Or.inl (by kernel_rfl!)) | exact Or.inr (Or.inr (by kernel_rfl!)))) (a_cons (d_var (i := 8) rfl (by first | exact Or.inl (by kernel_rfl!) | exact Or.inr (Or.inl (by kernel_rfl!)) | exact Or.inr (Or.inr (by kernel_rfl!)))) a_nil)) (by decide) (by kernel_rfl!) (by kernel_rfl!)) a_nil))) (d_slice (d_var (i := 3) rfl (by first | exact Or.inl (by kernel_rfl!) | exact Or.inr (Or.inl (by kernel_rfl!)) | exact Or.inr (Or.inr (by kernel_rfl!)))) (o_some (d_op x_addB (d_var (i := 5) rfl (by first | exact Or.inl (by kernel_rfl!) | exact Or.inr (Or.inl (by kernel_rfl!)) | exact Or.inr (Or.inr (by kernel_rfl!)))) d_int)) o_none)))
 s_nil)
s_nil)
 (s_cons (s_ret (d_ix x_ix (d_lst (a_cons (d_op x_addB (d_slice (d_var (i := 3) rfl (by first | exact Or.inl (by kernel_rfl!) | exact Or.inr (Or.inl (by kernel_rfl!)) | exact Or.inr (Or.inr (by kernel_rfl!)))) o_none (o_some (d_var (i := 5) rfl (by first | exact Or.inl (by kernel_rfl!) | exact Or.inr (Or.inl (by kernel_rfl!)) | exact Or.inr (Or.inr (by kernel_rfl!)))))) (d_slice (d_var (i := 3) rfl (by first | exact Or.inl (by kernel_rfl!) | exact Or.inr (Or.inl (by kernel_rfl!)) | exact Or.inr (Or.inr (by kernel_rfl!)))) (o_some (d_op x_addB (d_var (i := 5) rfl (by first | exact Or.inl (by kernel_rfl!) | exact Or.inr (Or.inl (by kernel_rfl!)) | exact Or.inr (Or.inr (by kernel_rfl!)))) d_int)) o_none)) (a_cons (d_op x_addB (d_slice (d_var (i := 3) rfl (by first | exact Or.inl (by kernel_rfl!) | exact Or.inr (Or.inl (by kernel_rfl!)) | exact Or.inr (Or.inr (by kernel_rfl!)))) o_none (o_some (d_op x_addB (d_var (i := 5) rfl (by first | exact Or.inl (by kernel_rfl!) | exact Or.inr (Or.inl (by kernel_rfl!)) | exact Or.inr (Or.inr (by kernel_rfl!)))) d_int))) (d_slice (d_var (i := 3) rfl (by first | exact Or.inl (by kernel_rfl!) | exact Or.inr (Or.inl (by kernel_rfl!)) | exact Or.inr (Or.inr (by kernel_rfl!)))) (o_some (d_var (i := 5) rfl (by first | exact Or.inl (by kernel_rfl!) | exact Or.inr (Or.inl (by kernel_rfl!)) | exact Or.inr (Or.inr (by kernel_rfl!))))) o_none)) (a_cons (d_callTy (x_listT rfl) (gl_of (by kernel_rfl!)) C.b_list (by decide +kernel) (a_cons (d_var (i := 3) rfl (by first | exact Or.inl (by kernel_rfl!) | exact Or.inr (Or.inl (by kernel_rfl!)) | exact Or.inr (Or.inr (by kernel_rfl!)))) a_nil)) (a_cons (d_rev (d_var (i := 3) rfl (by first | exact Or.inl (by kernel_rfl!) | exact Or.inr (Or.inl (by kernel_rfl!)) | exact Or.inr (Or.inr (by kernel_rfl!))))) a_nil))))) (d_op x_subB (d_var (i := 4) rfl (by first | exact Or.inl (by kernel_rfl!) | exact Or.inr (Or.inl (by kernel_rfl!)) | exact Or.inr (Or.inr (by kernel_rfl!)))) d_int) (fun _ _ => rfl)))
 s_nil))))))))))
abbrev s_law : Stmt := topS 21
theorem sc_law : FnScope ["_law_script", "_law_deck_here", "_law_turn", "_law_spec", "_law_history_here", "_law_holds", "_law_left", "_law_order", "_law_steps_here", "_law_things", "_law_thing", "_law_kept", "_law_k"] ["_law_script"] (defScope s_law) := ⟨rfl, rfl, rfl, by decide +kernel, rfl, by decide +kernel, by decide +kernel⟩
theorem at_law (C : Fx P w K mg) {f : Addr} {fd : FuncData} (Fu : Fun K "law" "law" (topS 21) f fd) : FnG P w K mg base CX0 5 f fd ["_law_script"] (spS K 1 W30.F_law) :=
 fn_mk W30.body_law 1 13 Fu sc_law rfl rfl (by decide) (fun f cdv A outer s H E hgu hr => by
 have hu64 := hr.units
 have hu1 := hu_of hr
 have hu100 := hu100_of hr
 have hu65 := hu65_of hr
 have nd := sc_law.nd
 exact (s_cons (s_asg (d_callC (ok__law_deck C) hgu (hr.mono (by decide)) (gl_of (by kernel_rfl!)) (a_cons (d_var (i := 0) rfl (by first | exact Or.inl (by kernel_rfl!) | exact Or.inr (Or.inl (by kernel_rfl!)) | exact Or.inr (Or.inr (by kernel_rfl!)))) a_nil) (by decide) (by kernel_rfl!) (by kernel_rfl!)) (t_name nd rfl (by first | exact Or.inl (by kernel_rfl!) | exact Or.inr (by kernel_rfl!))))
 (s_cons (s_for (i_range1 (gl_of (by kernel_rfl!)) C.b_range (a_cons d_int a_nil)) (t_name nd rfl (by first | exact Or.inl (by kernel_rfl!) | exact Or.inr (by kernel_rfl!)))
(s_cons (s_asg (d_callC (ok__law_pick C) hgu (hr.mono (by decide)) (gl_of (by kernel_rfl!)) (a_cons (d_var (i := 1) rfl (by first | exact Or.inl (by kernel_rfl!) | exact Or.inr (Or.inl (by kernel_rfl!)) | exact Or.inr (Or.inr (by kernel_rfl!)))) (a_cons (d_callC0 (ok__law_specs C) hgu (hr.mono (by decide)) (gl_of (by kernel_rfl!)) (by decide)) a_nil)) (by decide) (by kernel_rfl!) (by kernel_rfl!)) (t_name nd rfl (by first | exact Or.inl (by kernel_rfl!) | exact Or.inr (by kernel_rfl!))))
 (s_cons (s_asg (d_callC (ok__law_history C) hgu (hr.mono (by decide)) (gl_of (by kernel_rfl!)) (a_cons (d_var (i := 1) rfl (by first | exact Or.inl (by kernel_rfl!) | exact Or.inr (Or.inl (by kernel_rfl!)) | exact Or.inr (Or.inr (by kernel_rfl!)))) (a_cons (d_var (i := 3) rfl (by first | exact Or.inl (by kernel_rfl!) | exact Or.inr (Or.inl (by kernel_rfl!)) | exact Or.inr (Or.inr (by kernel_rfl!)))) (a_cons (d_op x_addB d_int (d_callC (ok__law_draw C) hgu (hr.mono (by decide)) (gl_of (by kernel_rfl!)) (a_cons (d_var (i := 1) rfl (by first | exact Or.inl (by kernel_rfl!) | exact Or.inr (Or.inl (by kernel_rfl!)) | exact Or.inr (Or.inr (by kernel_rfl!)))) (a_cons d_int a_nil)) (by decide) (by kernel_rfl!) (by kernel_rfl!))) (a_cons (d_op x_addB d_int (d_callC (ok__law_draw C) hgu (hr.mono (by decide)) (gl_of (by kernel_rfl!)) (a_cons (d_var (i := 1) rfl (by first | exact Or.inl (by kernel_rfl!) | exact Or.inr (Or.inl (by kernel_rfl!)) | exact Or.inr (Or.inr (by kernel_rfl!)))) (a_cons d_int a_nil)) (by decide) (by kernel_rfl!) (by kernel_rfl!))) a_nil)))) (by decide) (by kernel_rfl!) (by kernel_rfl!)) (t_pair rfl (t_name nd rfl (by first | exact Or.inl (by kernel_rfl!) | exact Or.inr (by kernel_rfl!))) (t_name nd rfl (by first | exact Or.inl (by kernel_rfl!) | exact Or.inr (by kernel_rfl!)))))
 (s_cons (s_comp (hy := rfl) (hyl := by kernel_rfl!) (hsw := by kernel_rfl!) (own := [("_law_k", 12)]) (hc := rfl) (hN := nd) (hi := (i_range1 (gl_of (by kernel_rfl!)) C.b_range (a_cons (d_callB x_len (gl_of (by kernel_rfl!)) C.b_len (by decide +kernel) (a_cons (d_var (i := 4) rfl (by first | exact Or.inl (by kernel_rfl!) | exact Or.inr (Or.inl (by kernel_rfl!)) | exact Or.inr (Or.inr (by kernel_rfl!)))) a_nil)) a_nil))) (ok := blkOk_by (by kernel_rfl!)) (hg := fun _ _ _ _ _ => (t_name nd rfl (by first | exact Or.inl (by kernel_rfl!) | exact Or.inr (by kernel_rfl!)))) (ht := fun _ _ _ _ _ => (q_one (q_cmp (x_notIn hu65) (d_var (i := 12) rfl (by first | exact Or.inl (by kernel_rfl!) | exact Or.inr (Or.inl (by kernel_rfl!)) | exact Or.inr (Or.inr (by kernel_rfl!)))) (d_var (i := 5) rfl (by first | exact Or.inl (by kernel_rfl!) | exact Or.inr (Or.inl (by kernel_rfl!)) | exact Or.inr (Or.inr (by kernel_rfl!)))) (by kernel_rfl!)))) (he := fun _ _ _ _ _ => (d_var (i := 12) rfl (by first | exact Or.inl (by kernel_rfl!) | exact Or.inr (Or.inl (by kernel_rfl!)) | exact Or.inr (Or.inr (by kernel_rfl!))))))
 (s_cons (s_asg (d_op x_addB (d_var (i := 5) rfl (by first | exact Or.inl (by kernel_rfl!) | exact Or.inr (Or.inl (by kernel_rfl!)) | exact Or.inr (Or.inr (by kernel_rfl!)))) (d_op x_mulB (d_callTy x_tuple (gl_of (by kernel_rfl!)) C.b_tuple (by decide +kernel) (a_cons (d_callC (ok__law_turned C) hgu (hr.mono (by decide)) (gl_of (by kernel_rfl!)) (a_cons (d_var (i := 1) rfl (by first | exact Or.inl (by kernel_rfl!) | exact Or.inr (Or.inl (by kernel_rfl!)) | exact Or.inr (Or.inr (by kernel_rfl!)))) (a_cons (d_var (i := 6) rfl (by first | exact Or.inl (by kernel_rfl!) | exact Or.inr (Or.inl (by kernel_rfl!)) | exact Or.inr (Or.inr (by kernel_rfl!)))) a_nil)) (by decide) (by kernel_rfl!) (by kernel_rfl!)) a_nil)) (d_callC (ok__law_draw C) hgu (hr.mono (by decide)) (gl_of (by kernel_rfl!)) (a_cons (d_var (i := 1) rfl (by first | exact Or.inl (by kernel_rfl!) | exact Or.inr (Or.inl (by kernel_rfl!)) | exact Or.inr (Or.inr (by kernel_rfl!)))) (a_cons d_int a_nil)) (by decide) (by kernel_rfl!) (by kernel_rfl!)))) (t_name nd rfl (by first | exact Or.inl (by kernel_rfl!) | exact Or.inr (by kernel_rfl!))))
 (s_cons (s_asg (d_callC (ok__law_steps C) hgu (hr.mono (by decide)) (gl_of (by kernel_rfl!)) (a_cons (d_var (i := 1) rfl (by first | exact Or.inl (by kernel_rfl!) | exact Or.inr (Or.inl (by kernel_rfl!)) | exact Or.inr (Or.inr (by kernel_rfl!)))) (a_cons (d_var (i := 4) rfl (by first | exact Or.inl (by kernel_rfl!) | exact Or.inr (Or.inl (by kernel_rfl!)) | exact Or.inr (Or.inr (by kernel_rfl!)))) (a_cons (d_var (i := 7) rfl (by first | exact Or.inl (by kernel_rfl!) | exact Or.inr (Or.inl (by kernel_rfl!)) | exact Or.inr (Or.inr (by kernel_rfl!)))) a_nil))) (by decide) (by kernel_rfl!) (by kernel_rfl!)) (t_name nd rfl (by first | exact Or.inl (by kernel_rfl!) | exact Or.inr (by kernel_rfl!))))
 (s_cons (s_if (q_cmp x_isnot (d_callC (ok_held_holds C) hgu (hr.mono (by decide)) (gl_of (by kernel_rfl!)) (a_cons (d_var (i := 4) rfl (by first | exact Or.inl (by kernel_rfl!) | exact Or.inr (Or.inl (by kernel_rfl!)) | exact Or.inr (Or.inr (by kernel_rfl!)))) (a_cons (d_var (i := 7) rfl (by first | exact Or.inl (by kernel_rfl!) | exact Or.inr (Or.inl (by kernel_rfl!)) | exact Or.inr (Or.inr (by kernel_rfl!)))) (a_cons (d_var (i := 8) rfl (by first | exact Or.inl (by kernel_rfl!) | exact Or.inr (Or.inl (by kernel_rfl!)) | exact Or.inr (Or.inr (by kernel_rfl!)))) a_nil))) (by decide) (by kernel_rfl!) (by kernel_rfl!)) d_bl (nomark _))
(s_cons (s_ret d_bl)
 s_nil)
s_nil)
 (s_cons (s_comp (hy := rfl) (hyl := by kernel_rfl!) (hsw := by kernel_rfl!) (own := [("_law_k", 12)]) (hc := rfl) (hN := nd) (hi := (i_range1 (gl_of (by kernel_rfl!)) C.b_range (a_cons d_int a_nil))) (ok := blkOk_by (by kernel_rfl!)) (hg := fun _ _ _ _ _ => (t_name nd rfl (by first | exact Or.inl (by kernel_rfl!) | exact Or.inr (by kernel_rfl!)))) (ht := fun _ _ _ _ _ => q_nil) (he := fun _ _ _ _ _ => (d_callC (ok__law_spoilt C) hgu (hr.mono (by decide)) (gl_of (by kernel_rfl!)) (a_cons (d_var (i := 1) rfl (by first | exact Or.inl (by kernel_rfl!) | exact Or.inr (Or.inl (by kernel_rfl!)) | exact Or.inr (Or.inr (by kernel_rfl!)))) (a_cons (d_var (i := 4) rfl (by first | exact Or.inl (by kernel_rfl!) | exact Or.inr (Or.inl (by kernel_rfl!)) | exact Or.inr (Or.inr (by kernel_rfl!)))) (a_cons (d_var (i := 7) rfl (by first | exact Or.inl (by kernel_rfl!) | exact Or.inr (Or.inl (by kernel_rfl!)) | exact Or.inr (Or.inr (by kernel_rfl!)))) (a_cons (d_var (i := 8) rfl (by first | exact Or.inl (by kernel_rfl!) | exact Or.inr (Or.inl (by kernel_rfl!)) | exact Or.inr (Or.inr (by kernel_rfl!)))) a_nil)))) (by decide) (by kernel_rfl!) (by kernel_rfl!))))
 (s_cons (s_for (i_src (d_op x_addB (d_op x_addB (d_var (i := 9) rfl (by first | exact Or.inl (by kernel_rfl!) | exact Or.inr (Or.inl (by kernel_rfl!)) | exact Or.inr (Or.inr (by kernel_rfl!)))) (d_lst (a_cons (d_var (i := 8) rfl (by first | exact Or.inl (by kernel_rfl!) | exact Or.inr (Or.inl (by kernel_rfl!)) | exact Or.inr (Or.inr (by kernel_rfl!)))) a_nil))) (d_slice (d_var (i := 9) rfl (by first | exact Or.inl (by kernel_rfl!) | exact Or.inr (Or.inl (by kernel_rfl!)) | exact Or.inr (Or.inr (by kernel_rfl!)))) o_none (o_some d_int)))) (t_name nd rfl (by first | exact Or.inl (by kernel_rfl!) | exact Or.inr (by kernel_rfl!)))
(s_cons (s_asg (d_callB (x_repr hgu hu100) (gl_of (by kernel_rfl!)) C.b_repr (by decide +kernel) (a_cons (d_tup (a_cons (d_var (i := 4) rfl (by first | exact Or.inl (by kernel_rfl!) | exact Or.inr (Or.inl (by kernel_rfl!)) | exact Or.inr (Or.inr (by kernel_rfl!)))) (a_cons (d_var (i := 7) rfl (by first | exact Or.inl (by kernel_rfl!) | exact Or.inr (Or.inl (by kernel_rfl!)) | exact Or.inr (Or.inr (by kernel_rfl!)))) (a_cons (d_var (i := 10) rfl (by first | exact Or.inl (by kernel_rfl!) | exact Or.inr (Or.inl (by kernel_rfl!)) | exact Or.inr (Or.inr (by kernel_rfl!)))) a_nil)))) a_nil)) (t_name nd rfl (by first | exact Or.inl (by kernel_rfl!) | exact Or.inr (by kernel_rfl!))))
 (s_cons (s_if (q_cmp (x_neE hu64) (d_callB (x_repr hgu hu100) (gl_of (by kernel_rfl!)) C.b_repr (by decide +kernel) (a_cons (d_callC (ok_held_holds C) hgu (hr.mono (by decide)) (gl_of (by kernel_rfl!)) (a_cons (d_var (i := 4) rfl (by first | exact Or.inl (by kernel_rfl!) | exact Or.inr (Or.inl (by kernel_rfl!)) | exact Or.inr (Or.inr (by kernel_rfl!)))) (a_cons (d_var (i := 7) rfl (by first | exact Or.inl (by kernel_rfl!) | exact Or.inr (Or.inl (by kernel_rfl!)) | exact Or.inr (Or.inr (by kernel_rfl!)))) (a_cons (d_var (i := 10) rfl (by first | exact Or.inl (by kernel_rfl!) | exact Or.inr (Or.inl (by kernel_rfl!)) | exact Or.inr (Or.inr (by kernel_rfl!)))) a_nil))) (by decide) (by kernel_rfl!) (by kernel_rfl!)) a_nil)) (d_callB (x_repr hgu hu100) (gl_of (by kernel_rfl!)) C.b_repr (by decide +kernel) (a_cons (d_callC (ok__law_due C) hgu (hr.mono (by decide)) (gl_of (by kernel_rfl!)) (a_cons (d_var (i := 4) rfl (by first | exact Or.inl (by kernel_rfl!) | exact Or.inr (Or.inl (by kernel_rfl!)) | exact Or.inr (Or.inr (by kernel_rfl!)))) (a_cons (d_var (i := 7) rfl (by first | exact Or.inl (by kernel_rfl!) | exact Or.inr (Or.inl (by kernel_rfl!)) | exact Or.inr (Or.inr (by kernel_rfl!)))) (a_cons (d_var (i := 10) rfl (by first | exact Or.inl (by kernel_rfl!) | exact Or.inr (Or.inl (by kernel_rfl!)) | exact Or.inr (Or.inr (by kernel_rfl!)))) a_nil))) (by decide) (by kernel_rfl!) (by kernel_rfl!)) a_nil)) (nomark _))
(s_cons (s_ret d_bl)
 s_nil)
s_nil)
 (s_cons (s_if (q_cmp (x_neE hu64) (d_callB (x_repr hgu hu100) (gl_of (by kernel_rfl!)) C.b_repr (by decide +kernel) (a_cons (d_tup (a_cons (d_var (i := 4) rfl (by first | exact Or.inl (by kernel_rfl!) | exact Or.inr (Or.inl (by kernel_rfl!)) | exact Or.inr (Or.inr (by kernel_rfl!)))) (a_cons (d_var (i := 7) rfl (by first | exact Or.inl (by kernel_rfl!) | exact Or.inr (Or.inl (by kernel_rfl!)) | exact Or.inr (Or.inr (by kernel_rfl!)))) (a_cons (d_var (i := 10) rfl (by first | exact Or.inl (by kernel_rfl!) | exact Or.inr (Or.inl (by kernel_rfl!)) | exact Or.inr (Or.inr (by kernel_rfl!)))) a_nil)))) a_nil)) (d_var (i := 11) rfl (by first | exact Or.inl (by kernel_rfl!) | exact Or.inr (Or.inl (by kernel_rfl!)) | exact Or.inr (Or.inr (by kernel_rfl!)))) (nomark _))
(s_cons (s_ret d_bl)
 s_nil)
s_nil)
 s_nil))) PassesOwn.never rfl)
 s_nil)))))))) PassesOwn.never rfl)
 (s_cons (s_ret d_bl)
 s_nil))))
end
end W30
namespace W30
open PySem PySem.Spec L2
open WS hiding DkOk draw_ok
theorem ap_par2 {i j : Nat} {fa : EL} {ρ : List Sl} {k : Dk} : sPar2 i j fa ρ k = (fa ρ k).bnd fun x => (put2 i j x.1 x.2.1).mpd fun ρ' => (.nx, ρ', x.2.2) := nrfl rfl
theorem ap_inS {neg : Bool} {fa fb : E} {ρ : List Sl} {k : Dk} : eInS neg fa fb ρ k = (fa ρ k).bnd fun y => (fb y.2.1 y.2.2).bnd fun x => (gInN neg y.1 (drf 1 (stOf x.2.2) x.1)).mpd fun z => (z, x.2.1, x.2.2) := nrfl rfl
theorem ap_revS {fo : E} {ρ : List Sl} {k : Dk} : eRevS fo ρ k = (fo ρ k).bnd fun x => (lsOfD (drf 1 (stOf x.2.2) x.1)).mpd fun ds => (.lst ds.reverse, x.2.1, x.2.2) := nrfl rfl
theorem lsOf_l {ds : List D} : lsOfD (.lst ds) = some ds := nrfl rfl
structure Sh (n w : Nat) (d : D) : Prop where
  ex : ∃ p, toR d = some p ∧ p.showable = true ∧ p.depth ≤ n ∧ p.bulk ≤ w ∧ p.leavesShort 60 = true
theorem Sh.mono {n w n' w' : Nat} {d : D} (h : Sh n w d) (h1 : n ≤ n') (h2 : w ≤ w') : Sh n' w' d := by
  obtain ⟨p, a, b, c, e, f⟩ := h.ex
  exact ⟨p, a, b, Nat.le_trans c h1, Nat.le_trans e h2, f⟩
theorem Sh.of_lf {d : D} (h : lf (10 ^ 55) d = true) : Sh (dpt d) (bk d) d := by
  obtain ⟨p, h1, h2, h3, h4, h5⟩ := toR_lf (Nat.le_refl _) h
  exact ⟨p, h1, h2, h3, toR_bk (Nat.le_refl _) h p h1, h5⟩
theorem sh_int {i : Int} {n w : Nat} (h : i.natAbs ≤ 10 ^ 55) : Sh n w (.int i) := (Sh.of_lf (by unfold lf; exact decide_eq_true h)).mono (Nat.zero_le _) (Nat.zero_le _)
theorem sh_bl {b : Bool} {n w : Nat} : Sh n w (.bl b) := (Sh.of_lf rfl).mono (Nat.zero_le _) (Nat.zero_le _)
theorem sh_non {n w : Nat} : Sh n w .non := (Sh.of_lf rfl).mono (Nat.zero_le _) (Nat.zero_le _)
theorem Shs {n w : Nat} : ∀ {l : List D}, (∀ d ∈ l, Sh n w d) → ∃ ps, toRs l = some ps ∧ PyData.showableAll ps = true ∧ PyData.depthAll ps ≤ n ∧ PyData.bulkAll ps ≤ (w + 1) * l.length ∧ PyData.leavesShortAll 60 ps = true
  | [], _ => ⟨[], rfl, rfl, Nat.zero_le _, Nat.zero_le _, rfl⟩
  | x :: r, h => by
    obtain ⟨p, a1, a2, a3, a4, a5⟩ := (h x List.mem_cons_self).ex
    obtain ⟨ps, b1, b2, b3, b4, b5⟩ := Shs (l := r) fun d hd => h d (List.mem_cons_of_mem _ hd)
    refine ⟨p :: ps, ?_, ?_, ?_, ?_, ?_⟩
    · unfold toRs; rw [a1, b1]; rfl
    · unfold PyData.showableAll; rw [a2, b2]; rfl
    · unfold PyData.depthAll; exact Nat.max_le.mpr ⟨a3, b3⟩
    · unfold PyData.bulkAll
      rw [List.length_cons, Nat.mul_succ]
      omega
    · unfold PyData.leavesShortAll; rw [a5, b5]; rfl
theorem sh_tup {n w m W : Nat} {l : List D} (h : ∀ d ∈ l, Sh n w d) (hm : n + 1 ≤ m) (hW : (w + 1) * l.length ≤ W) : Sh m W (.tup l) := by
  obtain ⟨ps, b1, b2, b3, b4, b5⟩ := Shs h
  refine ⟨.tuple ps, by simp only [toR, b1, Option.map_some], b2, ?_, ?_, b5⟩
  · simp only [PyData.depth]; omega
  · simp only [PyData.bulk]; omega
theorem sh_lst {n w m W : Nat} {l : List D} (h : ∀ d ∈ l, Sh n w d) (hm : n + 1 ≤ m) (hW : (w + 1) * l.length ≤ W) : Sh m W (.lst l) := by
  obtain ⟨ps, b1, b2, b3, b4, b5⟩ := Shs h
  refine ⟨.list ps, by simp only [toR, b1, Option.map_some], b2, ?_, ?_, b5⟩
  · simp only [PyData.depth]; omega
  · simp only [PyData.bulk]; omega
theorem sh_dct1 {n w m W : Nat} {d : D} (h : Sh n w d) (hm : n + 1 ≤ m) (hW : w + 2 ≤ W) : Sh m W (.dct [.inl 0] [d]) := by
  obtain ⟨p, a1, a2, a3, a4, a5⟩ := h.ex
  refine ⟨.dict [(.int 0, p)], ?_, ?_, ?_, ?_, ?_⟩
  · simp only [toR, toRs, a1, Option.bind_some, Option.map_some, List.length_cons, List.length_nil, if_true]
    rfl
  · simp only [PyData.showable, PyData.showableKv, a2]
    decide +kernel
  · simp only [PyData.depth, PyData.depthKv]; omega
  · simp only [PyData.bulk, PyData.bulkKv]; omega
  · simp only [PyData.leavesShort, PyData.leavesShortKv, a5]
    decide +kernel
theorem Sh.repr {n w : Nat} {d : D} (h : Sh n w d) (hn : n ≤ 60) (hw : w ≤ 160000) : ∃ x, gRepr [d] = some (.str x) := by
  obtain ⟨p, h1, h2, h3, h4, h5⟩ := h.ex
  have h6 := PyData.shown_le_bulk 60 (by omega) p h5
  refine ⟨p.shown, ?_⟩
  show ((toR d).bind fun p => if p.showable = true ∧ p.depth ≤ 60 ∧ p.shown.length ≤ sizeLine then some (D.str p.shown) else none) = _
  rw [h1, Option.bind_some, if_pos ⟨h2, by omega, by rw [sizeLine_eq]; omega⟩]
def DkS (st : List D) (n : Nat) (k : Dk) : Prop := ∃ cells at_ sum, k = some (cells, at_, sum, st) ∧ cells.length ≤ 63 ∧ 0 ≤ at_ ∧ at_ ≤ (n : Int)
theorem DkS.mono {st : List D} {n m : Nat} {k : Dk} (h : DkS st n k) (l : n ≤ m) : DkS st m k := by
  obtain ⟨c, a, s, e, h1, h2, h3⟩ := h
  exact ⟨c, a, s, e, h1, h2, by omega⟩
theorem draw_ok {st : List D} {n : Nat} {k : Dk} (h : DkS st n k) (m : Int) (hm : 0 < m ∧ m < 1073741824) (hn : n < 1000000000000) : ∃ i k', F_draw2 [.deck, .int m] k = some (.int i, k') ∧ 0 ≤ i ∧ i < m ∧ DkS st (n + 1) k' := by
  obtain ⟨c, a, s, rfl, h1, h2, h3⟩ := h
  have hc : 0 < m ∧ m < 1073741824 ∧ 0 ≤ a ∧ a < 2 ^ 62 ∧ c.length ≤ 1000 := ⟨hm.1, hm.2, h2, by omega, by omega⟩
  have fig : ∀ x y, 0 ≤ figure x y m ∧ figure x y m < m := fun x y => by
    unfold figure
    exact ⟨Int.emod_nonneg _ (by omega), Int.emod_lt_of_pos _ hm.1⟩
  cases c with
  | nil =>
    refine ⟨figure (s + 104729 * (a + 1)) (a + 1) m, some ([], a + 1, s, st), ?_, (fig _ _).1, (fig _ _).2, [], a + 1, s, rfl, by simp, by omega, by omega⟩
    show (if 0 < m ∧ m < 1073741824 ∧ 0 ≤ a ∧ a < 2 ^ 62 ∧ ([] : List Int).length ≤ 1000 then _ else _) = _
    rw [if_pos hc]
  | cons x r =>
    have hf : F_draw2 [.deck, .int m] (some (x :: r, a, s, st)) = if 10 ^ 18 ≤ x then some (.int (x % m), some (x / m :: r, a + 1, s, st)) else some (.int (figure x (a + 1) m), some (r, a + 1, s, st)) := by
      show (if 0 < m ∧ m < 1073741824 ∧ 0 ≤ a ∧ a < 2 ^ 62 ∧ (x :: r).length ≤ 1000 then _ else _) = _
      rw [if_pos hc]
    rw [hf]
    simp only [List.length_cons] at h1
    split
    · exact ⟨_, _, rfl, Int.emod_nonneg _ (by omega), Int.emod_lt_of_pos _ hm.1, _, _, _, rfl, by simp; omega, by omega, by omega⟩
    · exact ⟨_, _, rfl, (fig _ _).1, (fig _ _).2, _, _, _, rfl, by omega, by omega, by omega⟩
theorem pick_ok {st : List D} {n : Nat} {k : Dk} (h : DkS st n k) (xs : List D) (hx : 0 < xs.length ∧ xs.length < 1000000) (hn : n < 1000000000000) : ∃ x k', F__law_pick [.deck, .lst xs] k = some (x, k') ∧ x ∈ xs ∧ DkS st (n + 1) k' := by
  obtain ⟨i, k', e, h1, h2, h3⟩ := draw_ok h (xs.length : Int) ⟨by omega, by omega⟩ hn
  have hi : i.toNat < xs.length := by omega
  refine ⟨xs[i.toNat], k', ?_, List.getElem_mem hi, h3⟩
  have hx : gIx (.lst xs) (.int i) = some xs[i.toNat] := by
    have := ix_lst (xs := xs) (n := i.toNat)
    rw [Int.toNat_of_nonneg h1] at this
    rw [this, List.getElem?_eq_getElem hi]
  unfold F__law_pick body__law_pick
  simp! [e, hx]
/-- things of few kinds -/
inductive Pl : D → Prop
  | non : Pl .non
  | bl (b : Bool) : Pl (.bl b)
  | int (i : Int) : Pl (.int i)
  | str (x : Str) : Pl (.str x)
  | tup {xs : List D} : (∀ x ∈ xs, Pl x) → Pl (.tup xs)
  | lst (xs : List D) : Pl (.lst xs)
  | dct (ks : List Key) (xs : List D) : Pl (.dct ks xs)
theorem pow39 : gPow (.int 10) (.int 39) = some (.int (10 ^ 39)) := r_pow (n := 39) ⟨by omega, by decide⟩
theorem odd_ok {m w : Nat} {p : D} (hp : Pl p) (hs : Sh m w p) (hm : 4 ≤ m) {st : List D} {n : Nat} {k : Dk} (h : DkS st n k) (hn : n < 1000000000) :
    ∃ x k', F__law_odd [.deck, p] k = some (x, k') ∧ Pl x ∧ Sh (m + 1) (2 * w + 8) x ∧ DkS st (n + 1) k' := by
  obtain ⟨x, k', e, hx, d⟩ := pick_ok h ([.non, .bl true, .bl false, .int 0, .int 1, .int (-1), .int (10 ^ 39), .int (0 - 10 ^ 39), .str "", .str "0", .tup [], .lst [], .dct [] [], .tup [.non], .tup [.tup []], .lst [p]] ++ [.tup [p], .dct [.inl 0] [p], .tup [p, p], .tup [.tup [.tup [.tup [.int 0]]]]]) ⟨by simp, by simp⟩ (by omega)
  have hdi : eDisp [.inl 0] (aCons (eVar 1) aNil) [.val .deck, .val p, .val (.lst [.non, .bl true, .bl false, .int 0, .int 1, .int (-1), .int (10 ^ 39), .int (0 - 10 ^ 39), .str "", .str "0", .tup [], .lst [], .dct [] [], .tup [.non], .tup [.tup []], .lst [p]])] k = some (.dct [.inl 0] [p], [.val .deck, .val p, .val (.lst [.non, .bl true, .bl false, .int 0, .int 1, .int (-1), .int (10 ^ 39), .int (0 - 10 ^ 39), .str "", .str "0", .tup [], .lst [], .dct [] [], .tup [.non], .tup [.tup []], .lst [p]])], k) := rfl
  refine ⟨x, k', ?_, ?_, ?_, d⟩
  · unfold F__law_odd body__law_odd
    have ha := r_addL (a := [.non, .bl true, .bl false, .int 0, .int 1, .int (-1), .int (10 ^ 39), .int (0 - 10 ^ 39), .str "", .str "0", .tup [], .lst [], .dct [] [], .tup [.non], .tup [.tup []], .lst [p]]) (b := [.tup [p], .dct [.inl 0] [p], .tup [p, p], .tup [.tup [.tup [.tup [.int 0]]]]]) (by simp)
    simp! [pow39, hdi, ha, e]
  · simp only [List.mem_append, List.mem_cons, List.not_mem_nil, or_false] at hx
    have t0 : Pl (.tup []) := .tup fun x hx => by simp at hx
    have t1 : ∀ {d : D}, Pl d → Pl (.tup [d]) := fun {d} hd => .tup fun x hx => by
      rw [List.mem_singleton] at hx; subst hx; exact hd
    rcases hx with (rfl | rfl | rfl | rfl | rfl | rfl | rfl | rfl | rfl | rfl | rfl | rfl | rfl | rfl | rfl | rfl) | rfl | rfl | rfl | rfl
    · exact .non
    · exact .bl _
    · exact .bl _
    · exact .int _
    · exact .int _
    · exact .int _
    · exact .int _
    · exact .int _
    · exact .str _
    · exact .str _
    · exact t0
    · exact .lst _
    · exact .dct _ _
    · exact t1 .non
    · exact t1 t0
    · exact .lst _
    · exact t1 hp
    · exact .dct _ _
    · exact .tup fun x hx => by
        simp only [List.mem_cons, List.not_mem_nil, or_false] at hx
        rcases hx with rfl | rfl <;> exact hp
    · exact t1 (t1 (t1 (t1 (.int _))))
  · simp only [List.mem_append, List.mem_cons, List.not_mem_nil, or_false] at hx
    have s0 : ∀ {d : D}, lf (10 ^ 55) d = true → dpt d ≤ 4 → bk d ≤ 8 → Sh (m + 1) (2 * w + 8) d := fun {d} a b c => (Sh.of_lf a).mono (by omega) (by omega)
    rcases hx with (rfl | rfl | rfl | rfl | rfl | rfl | rfl | rfl | rfl | rfl | rfl | rfl | rfl | rfl | rfl | rfl) | rfl | rfl | rfl | rfl
    · exact sh_non
    · exact sh_bl
    · exact sh_bl
    · exact sh_int (by decide)
    · exact sh_int (by decide)
    · exact sh_int (by decide)
    · exact sh_int (by decide)
    · exact sh_int (by decide)
    · exact s0 (by decide +kernel) (by decide) (by decide)
    · exact s0 (by decide +kernel) (by decide) (by decide)
    · exact s0 (by decide +kernel) (by decide) (by decide)
    · exact s0 (by decide +kernel) (by decide) (by decide)
    · exact s0 (by decide +kernel) (by decide) (by decide)
    · exact s0 (by decide +kernel) (by decide) (by decide)
    · exact s0 (by decide +kernel) (by decide) (by decide)
    · exact sh_lst (n := m) (w := w) (fun d hd => by rw [List.mem_singleton] at hd; subst hd; exact hs) (Nat.le_refl _) (by simp; omega)
    · exact sh_tup (n := m) (w := w) (fun d hd => by rw [List.mem_singleton] at hd; subst hd; exact hs) (Nat.le_refl _) (by simp; omega)
    · exact sh_dct1 hs (Nat.le_refl _) (by omega)
    · exact sh_tup (n := m) (w := w) (fun d hd => by
        simp only [List.mem_cons, List.not_mem_nil, or_false] at hd
        rcases hd with rfl | rfl <;> exact hs) (Nat.le_refl _) (by simp; omega)
    · exact s0 (by decide +kernel) (by decide) (by decide)
end W30
namespace W30
open PySem PySem.Spec L2
open WS hiding DkOk draw_ok
structure Row where
  hand : Int
  deed : D
  told : D
  b : Int
  e : Option Int
def optD : Option Int → D
  | none => .non
  | some i => .int i
def rowL (r : Row) : List D := [.int r.hand, r.deed, r.told, .int r.b, optD r.e]
def rowD (r : Row) : D := .tup (rowL r)
def within (r : Row) (i : Int) : Bool := decide (r.b ≤ i) && (match r.e with
  | none => true
  | some e => decide (i ≤ e))
def wholeB : D → Bool
  | .int _ => true
  | _ => false
def stepB : D → Bool
  | .int i => decide (0 ≤ i)
  | _ => false
theorem ix3 {r : Row} : gIx (rowD r) (.int 3) = some (.int r.b) := WS.ix_tup (xs := rowL r) (n := 3)
theorem ix4 {r : Row} : gIx (rowD r) (.int 4) = some (optD r.e) := WS.ix_tup (xs := rowL r) (n := 4)
theorem put23 {a b d e : D} {s2 s3 : Sl} : put2 2 3 [a, b] [.val d, .val e, s2, s3] = some [.val d, .val e, .val a, .val b] := rfl
theorem is_within_ok (r : Row) (i : Int) (k : Dk) : F_is_within [rowD r, .int i] k = some (.bl (within r i), k) := by
  unfold F_is_within body_is_within within
  cases he : r.e with
  | none =>
    have e4 : gIx (rowD r) (.int 4) = some .non := by rw [ix4, he]; rfl
    by_cases h : r.b ≤ i
    · simp! [ap_newL, ap_listN, ap_opS, ap_unS, ap_appS, ap_setLS, ap_setDS, ap_get2S, ap_dispN, ap_newD0, ap_dictPN, ap_sortDK, ap_unp, ap_mtS, ap_dpopS, stOf_some, born_some, poke_some, lc_loc, Nat.zero_le, drf_int, drf_str, drf_non, drf_bl, drf_tup, drf_lst, drf_dct, nl_int, nl_str, nl_bl, nl_non, nl_loc, dct_of, seq_l, seq_t, isLs_l, ap_par2, ap_inS, ap_revS, lsOf_l, ix3, e4, put23, r_leI, h, isNonD]
    · simp! [ap_newL, ap_listN, ap_opS, ap_unS, ap_appS, ap_setLS, ap_setDS, ap_get2S, ap_dispN, ap_newD0, ap_dictPN, ap_sortDK, ap_unp, ap_mtS, ap_dpopS, stOf_some, born_some, poke_some, lc_loc, Nat.zero_le, drf_int, drf_str, drf_non, drf_bl, drf_tup, drf_lst, drf_dct, nl_int, nl_str, nl_bl, nl_non, nl_loc, dct_of, seq_l, seq_t, isLs_l, ap_par2, ap_inS, ap_revS, lsOf_l, ix3, e4, put23, r_leI, h, isNonD]
  | some e =>
    have e4 : gIx (rowD r) (.int 4) = some (.int e) := by rw [ix4, he]; rfl
    by_cases h : r.b ≤ i
    · simp! [ap_newL, ap_listN, ap_opS, ap_unS, ap_appS, ap_setLS, ap_setDS, ap_get2S, ap_dispN, ap_newD0, ap_dictPN, ap_sortDK, ap_unp, ap_mtS, ap_dpopS, stOf_some, born_some, poke_some, lc_loc, Nat.zero_le, drf_int, drf_str, drf_non, drf_bl, drf_tup, drf_lst, drf_dct, nl_int, nl_str, nl_bl, nl_non, nl_loc, dct_of, seq_l, seq_t, isLs_l, ap_par2, ap_inS, ap_revS, lsOf_l, ix3, e4, put23, r_leI, h, isNonD]
    · simp! [ap_newL, ap_listN, ap_opS, ap_unS, ap_appS, ap_setLS, ap_setDS, ap_get2S, ap_dispN, ap_newD0, ap_dictPN, ap_sortDK, ap_unp, ap_mtS, ap_dpopS, stOf_some, born_some, poke_some, lc_loc, Nat.zero_le, drf_int, drf_str, drf_non, drf_bl, drf_tup, drf_lst, drf_dct, nl_int, nl_str, nl_bl, nl_non, nl_loc, dct_of, seq_l, seq_t, isLs_l, ap_par2, ap_inS, ap_revS, lsOf_l, ix3, e4, put23, r_leI, h, isNonD]
theorem is_step_ok {d : D} (h : Pl d) (k : Dk) : F_is_step [d] k = some (.bl (stepB d), k) := by
  unfold F_is_step body_is_step stepB
  cases h <;> simp! [ap_newL, ap_listN, ap_opS, ap_unS, ap_appS, ap_setLS, ap_setDS, ap_get2S, ap_dispN, ap_newD0, ap_dictPN, ap_sortDK, ap_unp, ap_mtS, ap_dpopS, stOf_some, born_some, poke_some, lc_loc, Nat.zero_le, drf_int, drf_str, drf_non, drf_bl, drf_tup, drf_lst, drf_dct, nl_int, nl_str, nl_bl, nl_non, nl_loc, dct_of, seq_l, seq_t, isLs_l, ap_par2, ap_inS, ap_revS, lsOf_l, List.map_nil]
theorem is_whole_ok {d : D} (h : Pl d) (k : Dk) : F__law_whole [d] k = some (.bl (wholeB d), k) := by
  unfold F__law_whole body__law_whole wholeB
  cases h <;> simp! [ap_newL, ap_listN, ap_opS, ap_unS, ap_appS, ap_setLS, ap_setDS, ap_get2S, ap_dispN, ap_newD0, ap_dictPN, ap_sortDK, ap_unp, ap_mtS, ap_dpopS, stOf_some, born_some, poke_some, lc_loc, Nat.zero_le, drf_int, drf_str, drf_non, drf_bl, drf_tup, drf_lst, drf_dct, nl_int, nl_str, nl_bl, nl_non, nl_loc, dct_of, seq_l, seq_t, isLs_l, ap_par2, ap_inS, ap_revS, lsOf_l, List.map_nil]
def ascB : List Int → Bool
  | a :: b :: r => decide (a ≤ b) && ascB (b :: r)
  | _ => true
theorem asc_iff : ∀ {ns : List Int}, ascB ns = true ↔ ns.Pairwise (· ≤ ·)
  | [] => by simp [ascB]
  | [a] => by simp [ascB]
  | a :: b :: r => by
    rw [List.pairwise_cons]
    have ih := asc_iff (ns := b :: r)
    unfold ascB
    rw [Bool.and_eq_true, decide_eq_true_eq, ih]
    refine ⟨fun ⟨h1, h2⟩ => ⟨fun x hx => ?_, h2⟩, fun ⟨h1, h2⟩ => ⟨h1 b List.mem_cons_self, h2⟩⟩
    rcases List.mem_cons.mp hx with e | hx
    · rw [e]; exact h1
    · exact Int.le_trans h1 ((List.pairwise_cons.mp h2).1 x hx)
theorem asc_sort {ns : List Int} : ascB ns = decide (ns = isort ns) := by
  rw [Bool.eq_iff_iff, asc_iff, decide_eq_true_eq]
  exact ⟨fun h => isort_uniq (List.Perm.refl _) h, fun h => by rw [h]; exact isort_sorted ns⟩
theorem asc_zip : ∀ ns : List Int, (List.zipWith (fun a b : Int => decide (a ≤ b)) ns.dropLast (ns.drop 1)).all id = ascB ns
  | [] => rfl
  | [a] => rfl
  | a :: b :: r => by
    have ih := asc_zip (b :: r)
    show (List.zipWith _ (a :: (b :: r).dropLast) (b :: r)).all id = _
    rw [List.zipWith_cons_cons, List.all_cons]
    show (decide (a ≤ b) && (List.zipWith _ (b :: r).dropLast ((b :: r).drop 1)).all id) = _
    rw [ih]; rfl
def allW (rs : List Row) (ns : List Int) : Bool := (List.zipWith within rs ns).all id
/-- a history's rows by an order -/
structure Rws (rows : List Row) (o : List Nat) (rs : List Row) : Prop where
  len : rs.length = o.length
  at_ : ∀ (j n : Nat), o[j]? = some n → ∃ r, rows[n]? = some r ∧ rs[j]? = some r
def histD (rows : List Row) : D := .tup (rows.map rowD)
def nD (n : Nat) : D := .int (n : Int)
def ordD (o : List Nat) : D := .tup (o.map nD)
theorem ix_hist {rows : List Row} {n : Nat} {r : Row} (h : rows[n]? = some r) : gIx (histD rows) (nD n) = some (rowD r) := by
  show gIx (.tup (rows.map rowD)) (.int (n : Int)) = _
  rw [WS.ix_tup, List.getElem?_map, h]; rfl
/-- thing by thing over two lists -/
theorem comp_zip {α β : Type} {vs : List Nat} {g : Tg} {tt elt : E} {ρ : List Sl} {k : Dk} (f1 : α → D) (f2 : β → D) (h : α → β → D) : ∀ (xs : List α) (ys : List β), (∀ (j : Nat) (x : α) (y : β), xs[j]? = some x → ys[j]? = some y → ∃ ρ1 ρ2 ρ3, g (.tup [f1 x, f2 y]) ρ = some ρ1 ∧ tt ρ1 k = some (.bl true, ρ2, k) ∧ elt ρ2 k = some (h x y, ρ3, k) ∧ wipeS ρ3 vs = ρ) →
    eCompGo vs g tt elt (List.zipWith (fun x y => .tup [x, y]) (xs.map f1) (ys.map f2)) ρ k = some (List.zipWith h xs ys, ρ, k)
  | [], _, _ => by simp only [List.map_nil, List.zipWith_nil_left]; rfl
  | _ :: _, [], _ => by simp only [List.map_nil, List.zipWith_nil_right]; rfl
  | x :: xs, y :: ys, H => by
    obtain ⟨ρ1, ρ2, ρ3, h1, h2, h3, h4⟩ := H 0 x y rfl rfl
    have ih := comp_zip f1 f2 h xs ys fun j x y a b => H (j + 1) x y a b
    rw [List.map_cons, List.map_cons, List.zipWith_cons_cons, List.zipWith_cons_cons]
    unfold eCompGo
    rw [h1, Option.bind_some, h2, Option.bind_some]
    show ((elt ρ2 k).bind fun y => (eCompGo vs g tt elt _ (wipeS y.2.1 vs) y.2.2).map fun z => (y.1 :: z.1, z.2)) = _
    rw [h3, Option.bind_some]
    show (eCompGo vs g tt elt _ (wipeS ρ3 vs) k).map (fun z => (h x y :: z.1, z.2)) = _
    rw [h4, ih]
    rfl
theorem zipBl {α β : Type} (f : α → β → Bool) : ∀ (xs : List α) (ys : List β), List.zipWith (fun x y => D.bl (f x y)) xs ys = (List.zipWith f xs ys).map D.bl
  | [], _ => by simp
  | _ :: _, [] => by simp
  | x :: xs, y :: ys => by
    rw [List.zipWith_cons_cons, List.zipWith_cons_cons, List.map_cons, zipBl f xs ys]
theorem all_bl (l : List Bool) : gAll [.lst (l.map D.bl)] = some (.bl (l.all id)) := by
  have := gAll_map (fun b : Bool => b) l
  simpa using this
theorem cut_last {xs : List D} : cutD xs none (some (-1)) = xs.dropLast := by
  unfold cutD
  rw [HT.sIx_none, List.drop_zero, Nat.sub_zero, List.dropLast_eq_take]
  have e : HT.sIx xs.length xs.length (some (-1)) = xs.length - 1 := by
    unfold HT.sIx
    dsimp only
    rw [if_pos (by decide)]
    omega
  rw [e]
theorem sl_last {xs : List D} : gSl (.tup xs) none (some (-1)) = some (.tup xs.dropLast) := by
  show some (D.tup (cutD xs none (some (-1)))) = _
  rw [cut_last]
theorem ints_of_step : ∀ {xs : List D}, xs.all stepB = true → ∃ ns : List Int, xs = ns.map .int ∧ ∀ i ∈ ns, 0 ≤ i
  | [], _ => ⟨[], rfl, by simp⟩
  | x :: r, h => by
    rw [List.all_cons, Bool.and_eq_true] at h
    obtain ⟨ns, e, hn⟩ := ints_of_step h.2
    cases x with
    | int i =>
      have hi : 0 ≤ i := of_decide_eq_true (show decide (0 ≤ i) = true from h.1)
      refine ⟨i :: ns, by rw [e]; rfl, fun j hj => ?_⟩
      rcases List.mem_cons.mp hj with q | q
      · rw [q]; exact hi
      · exact hn j q
    | _ => exact absurd h.1 Bool.false_ne_true
theorem ints_of_whole : ∀ {xs : List D}, xs.all wholeB = true → ∃ ns : List Int, xs = ns.map .int
  | [], _ => ⟨[], rfl⟩
  | x :: r, h => by
    rw [List.all_cons, Bool.and_eq_true] at h
    obtain ⟨ns, e⟩ := ints_of_whole h.2
    cases x with
    | int i => exact ⟨i :: ns, by rw [e]; rfl⟩
    | _ => exact absurd h.1 Bool.false_ne_true
theorem step_all {ns : List Int} : (ns.map D.int).all stepB = ns.all fun i => decide (0 ≤ i) := by
  rw [List.all_map]; rfl
/-- what is asked -/
def holdsB (rs : List Row) : D → Bool
  | .tup xs => decide (xs.length = rs.length) && (match intsOf xs with
    | some ns => allW rs ns && ascB ns
    | none => false)
  | _ => false
theorem holds_tup {rs : List Row} {xs : List D} : holdsB rs (.tup xs) = (decide (xs.length = rs.length) && (match intsOf xs with
    | some ns => allW rs ns && ascB ns
    | none => false)) := rfl
theorem intsOf_ints : ∀ ns : List Int, intsOf (ns.map D.int) = some ns
  | [] => rfl
  | n :: r => by
    show (intsOf (r.map D.int)).map _ = _
    rw [intsOf_ints r]; rfl
theorem intsOf_none : ∀ {xs : List D}, xs.all wholeB = false → intsOf xs = none
  | x :: r, h => by
    rw [List.all_cons] at h
    cases x with
    | int i =>
      have := intsOf_none (xs := r) (by simpa [wholeB] using h)
      show (intsOf r).map _ = none
      rw [this]; rfl
    | _ => rfl
theorem comp_step {xs : List D} (hp : ∀ x ∈ xs, Pl x) {ρ : List Sl} {k : Dk} {a b c s5 s6 s4 : Sl} : eCompGo [3] (gSet 3) (eC (.bl true)) (eCallF 1 F_is_step (aCons (eVar 3) aNil)) xs [a, b, c, .no, s4, s5, s6] k = some (xs.map fun x => .bl (stepB x), [a, b, c, .no, s4, s5, s6], k) :=
  comp_map (fun x => .bl (stepB x)) xs fun d hd => by
    refine ⟨_, _, [a, b, c, .val d, s4, s5, s6], rfl, rfl, ?_, rfl⟩
    simp! [is_step_ok (hp d hd)]
theorem all_step (xs : List D) : gAll [.lst (xs.map fun x => D.bl (stepB x))] = some (.bl (xs.all stepB)) := by
  rw [gAll_map, List.all_map]; rfl
theorem neI {a b : Nat} : gNeE (.int (a : Int)) (.int (b : Int)) = some (.bl (!decide (a = b))) := by
  rw [r_neI]
  congr 2
  by_cases h : a = b
  · subst h; simp
  · have : ¬ (a : Int) = b := by omega
    simp [h, this]
theorem zip_g {xs ys : List D} : gZipG [.tup xs, .tup ys] = some (List.zipWith (fun x y => .tup [x, y]) xs ys) := rfl
theorem zip_gl {xs ys : List D} : gZipG [.lst xs, .tup ys] = some (List.zipWith (fun x y => .tup [x, y]) xs ys) := rfl
theorem zip_s {xs ys : List D} (h : xs.length = ys.length) : gZipS [.tup xs, .tup ys] = some (List.zipWith (fun x y => .tup [x, y]) xs ys) := by
  unfold gZipS dSq
  simp only [Option.bind_some]
  rw [if_pos h]
section
variable {rows rs : List Row} {o : List Nat} (R : Rws rows o rs) (ho : o.length ≤ 1000)
include R ho
theorem held_ok {d : D} (hp : Pl d) (hb : ∀ r ∈ rs, 0 ≤ r.b) (k : Dk) : F_held_holds [histD rows, ordD o, d] k = some (.bl (holdsB rs d), k) := by
  have ord : ordD o = .tup (o.map nD) := rfl
  unfold F_held_holds body_held_holds
  cases hp with
  | @tup xs hxs =>
    by_cases hl : xs.length = o.length
    · have nl : gNeE (.int (xs.length : Int)) (.int ((o.map nD).length : Int)) = some (.bl false) := by rw [List.length_map, neI, hl]; simp
      have sz : (xs.length < sizeLine) = True := eq_true (by rw [sizeLine_eq]; omega)
      have hc := @comp_step xs hxs [] k (.val (histD rows)) (.val (.tup (o.map nD))) (.val (.tup xs)) .no .no .no
      have ha := all_step xs
      have w0 : wipeS [Sl.val (histD rows), .val (.tup (o.map nD)), .val (.tup xs), .no, .no, .no, .no] [3] = [.val (histD rows), .val (.tup (o.map nD)), .val (.tup xs), .no, .no, .no, .no] := rfl
      by_cases hs : xs.all stepB = true
      · obtain ⟨ns, e, hn⟩ := ints_of_step hs
        have hlen : ns.length = o.length := by rw [e, List.length_map] at hl; exact hl
        have hi : intsOf xs = some ns := by rw [e]; exact intsOf_ints ns
        have w1 : wipeS [Sl.val (histD rows), .val (.tup (o.map nD)), .val (.tup xs), .no, .no, .no, .no] [5, 6] = [.val (histD rows), .val (.tup (o.map nD)), .val (.tup xs), .no, .no, .no, .no] := rfl
        have w2 : wipeS [Sl.val (histD rows), .val (.tup (o.map nD)), .val (.tup xs), .no, .no, .no, .no] [3, 4] = [.val (histD rows), .val (.tup (o.map nD)), .val (.tup xs), .no, .no, .no, .no] := rfl
        have z1 : gZipS [.tup (o.map nD), .tup xs] = some (List.zipWith (fun x y => .tup [x, y]) (o.map nD) (ns.map .int)) := by rw [zip_s (by rw [List.length_map]; exact hl.symm), e]
        have z2 : (List.zipWith (fun x y => D.tup [x, y]) (o.map nD) (ns.map .int)).length < sizeLine := by
          rw [List.length_zipWith, List.length_map, List.length_map, sizeLine_eq]; omega
        have hh : ∀ j (n : Nat) (i : Int), o[j]? = some n → ns[j]? = some i → ∃ r, rows[n]? = some r ∧ rs[j]? = some r := fun j n i a _ => R.at_ j n a
        have c1 : eCompGo [5, 6] (gPair (gSet 5) (gSet 6)) (eC (.bl true)) (eCallF 2 F_is_within (aCons (eOp gIx (eVar 0) (eVar 5)) (aCons (eVar 6) aNil))) (List.zipWith (fun x y => .tup [x, y]) (o.map nD) (ns.map .int)) [.val (histD rows), .val (.tup (o.map nD)), .val (.tup xs), .no, .no, .no, .no] k
            = some (List.zipWith (fun (n : Nat) (i : Int) => D.bl (match rows[n]? with | some r => within r i | none => false)) o ns, [.val (histD rows), .val (.tup (o.map nD)), .val (.tup xs), .no, .no, .no, .no], k) :=
          comp_zip nD D.int (fun (n : Nat) (i : Int) => D.bl (match rows[n]? with | some r => within r i | none => false)) o ns fun j n i h1 h2 => by
            obtain ⟨r, hr, _⟩ := R.at_ j n h1
            refine ⟨_, _, [.val (histD rows), .val (.tup (o.map nD)), .val (.tup xs), .no, .no, .val (nD n), .val (.int i)], rfl, rfl, ?_, rfl⟩
            rw [hr]
            simp! [ix_hist hr, is_within_ok]
        have e1 : List.zipWith (fun (n : Nat) (i : Int) => D.bl (match rows[n]? with | some r => within r i | none => false)) o ns = (List.zipWith within rs ns).map D.bl := by
          rw [zipBl]
          congr 1
          refine List.ext_getElem? fun j => ?_
          rw [List.getElem?_zipWith, List.getElem?_zipWith]
          cases h1 : o[j]? with
          | none =>
            have : rs[j]? = none := List.getElem?_eq_none_iff.mpr (by rw [R.len]; exact List.getElem?_eq_none_iff.mp h1)
            rw [this]
          | some n =>
            obtain ⟨r, hr, hr2⟩ := R.at_ j n h1
            rw [hr2]
            cases ns[j]? with
            | none => rfl
            | some i => simp only [hr]
        have a1 := all_bl (List.zipWith within rs ns)
        have z3 : gZipG [.tup xs.dropLast, .tup (xs.drop 1)] = some (List.zipWith (fun x y => .tup [x, y]) (ns.dropLast.map .int) ((ns.drop 1).map .int)) := by
          rw [zip_g, e, List.map_dropLast, List.map_drop]
        have z4 : (List.zipWith (fun x y => D.tup [x, y]) (ns.dropLast.map D.int) ((ns.drop 1).map .int)).length < sizeLine := by
          rw [List.length_zipWith, List.length_map, List.length_map, List.length_dropLast, sizeLine_eq]; omega
        have c2 : eCompGo [3, 4] (gPair (gSet 3) (gSet 4)) (eC (.bl true)) (eOp gLeE (eVar 3) (eVar 4)) (List.zipWith (fun x y => .tup [x, y]) (ns.dropLast.map .int) ((ns.drop 1).map .int)) [.val (histD rows), .val (.tup (o.map nD)), .val (.tup xs), .no, .no, .no, .no] k
            = some (List.zipWith (fun (a b : Int) => D.bl (decide (a ≤ b))) ns.dropLast (ns.drop 1), [.val (histD rows), .val (.tup (o.map nD)), .val (.tup xs), .no, .no, .no, .no], k) :=
          comp_zip D.int D.int (fun (a b : Int) => D.bl (decide (a ≤ b))) _ _ fun j a b _ _ => by
            refine ⟨_, _, [.val (histD rows), .val (.tup (o.map nD)), .val (.tup xs), .val (.int a), .val (.int b), .no, .no], rfl, rfl, ?_, rfl⟩
            simp! [r_leI]
        have a2 := all_bl (List.zipWith (fun (a b : Int) => decide (a ≤ b)) ns.dropLast (ns.drop 1))
        have hB : holdsB rs (.tup xs) = (allW rs ns && ascB ns) := by
          rw [holds_tup]
          rw [hi]
          have : xs.length = rs.length := by rw [R.len]; exact hl
          simp [this]
        rw [hB]
        rw [zipBl] at c2
        rw [asc_zip] at a2
        have a1' : gAll [.lst ((List.zipWith within rs ns).map D.bl)] = some (.bl (allW rs ns)) := a1
        rw [e1] at c1
        cases hw : allW rs ns with
        | false =>
          rw [hw] at a1'
          simp! [ord, nl, sz, hc, ha, hs, w0, z1, z2, w1, c1, a1']
        | true =>
          rw [hw] at a1'
          simp! [ord, nl, sz, hc, ha, hs, w0, z1, z2, w1, c1, a1', sl_last, sl_from1, z3, z4, w2, c2, a2]
      · have hs' : xs.all stepB = false := by simpa using hs
        have hB : holdsB rs (.tup xs) = false := by
          rw [holds_tup]
          by_cases hwl : xs.all wholeB = true
          · obtain ⟨ns, e⟩ := ints_of_whole hwl
            have hi : intsOf xs = some ns := by rw [e]; exact intsOf_ints ns
            rw [hi]
            have hlen : ns.length = rs.length := by rw [e, List.length_map] at hl; rw [R.len]; exact hl
            have : allW rs ns = false := by
              rw [e, step_all] at hs'
              rw [Bool.eq_false_iff]
              intro h
              unfold allW at h
              rw [List.all_eq_true] at h
              rw [Bool.eq_false_iff] at hs'
              apply hs'
              rw [List.all_eq_true]
              intro i hmem
              obtain ⟨j, hj⟩ := List.mem_iff_getElem?.mp hmem
              have hjl := (List.getElem?_eq_some_iff.mp hj).1
              have hr : rs[j]? = some rs[j] := List.getElem?_eq_getElem (by omega)
              have hw := h (within rs[j] i) (List.mem_of_getElem? (i := j) (by rw [List.getElem?_zipWith, hr, hj]))
              have h0 := hb rs[j] (List.getElem_mem _)
              have hw' : within rs[j] i = true := hw
              unfold within at hw'
              rw [Bool.and_eq_true, decide_eq_true_eq] at hw'
              exact decide_eq_true (by omega)
            simp [this]
          · rw [intsOf_none (by simpa using hwl)]; simp
        rw [hB]
        rw [hs'] at ha
        simp! [ord, nl, sz, hc, ha, w0]
    · have nl : gNeE (.int (xs.length : Int)) (.int ((o.map nD).length : Int)) = some (.bl true) := by rw [List.length_map, neI]; simp [hl]
      have hB : holdsB rs (.tup xs) = false := by
        rw [holds_tup]
        have : ¬ xs.length = rs.length := by rw [R.len]; exact hl
        simp [this]
      rw [hB]
      simp! [ord, nl]
  | _ => simp! []; rfl
end
theorem neL_ints (a b : List Int) : gNeE (.lst (a.map .int)) (.lst (b.map .int)) = some (.bl (!decide (a = b))) := by
  show (if a.map D.int = [] ∨ b.map D.int = [] then some (D.bl (!((a.map D.int).isEmpty && (b.map D.int).isEmpty))) else gNe (.lst (a.map .int)) (.lst (b.map .int))) = _
  have toPs_ints : ∀ ns : List Int, toPs (ns.map .int) = some (ns.map PyData.int) := fun ns => by
    induction ns with
    | nil => rfl
    | cons n r ih =>
      unfold toPs
      simp only [List.map_cons]
      show ((toP (.int n)).bind fun p => (toPs (r.map .int)).map fun q => p :: q) = _
      rw [ih]; rfl
  have lay : ∀ ns : List Int, PyData.canLayAll0 (ns.map PyData.int) = true ∧ PyData.depthAll (ns.map PyData.int) = 0 := fun ns => by
    induction ns with
    | nil => exact ⟨rfl, rfl⟩
    | cons n r ih => exact ⟨by show (true && _) = true; rw [ih.1]; rfl, by show max 0 _ = 0; rw [ih.2]; rfl⟩
  have eqv : ∀ a b : List Int, PyData.eqvAll (a.map PyData.int) (b.map PyData.int) = decide (a = b) := fun a => by
    induction a with
    | nil => intro b; cases b <;> rfl
    | cons x a ih =>
      intro b
      cases b with
      | nil => rfl
      | cons y b =>
        show (x == y && PyData.eqvAll (a.map PyData.int) (b.map PyData.int)) = _
        rw [ih b, Bool.eq_iff_iff]
        simp only [Bool.and_eq_true, beq_iff_eq, decide_eq_true_eq, List.cons.injEq]
  have shp : ∀ a : List Int, SeqAt.shaped (.list (a.map PyData.int)) = true := fun a => by
    obtain ⟨h1, h2⟩ := lay a
    show (PyData.canLayAll0 (a.map PyData.int) && decide (PyData.depthAll (a.map PyData.int) + 1 ≤ 64)) = true
    rw [h1, h2]; rfl
  split
  · rename_i h
    congr 2
    cases a <;> cases b <;> first | rfl | (simp at h)
  · show (eqD (.lst (a.map .int)) (.lst (b.map .int))).map (fun b => D.bl (!b)) = _
    unfold eqD
    have e : ∀ c : List Int, toP (.lst (c.map .int)) = some (.list (c.map PyData.int)) := fun c => by
      show (toPs _).map _ = _
      rw [toPs_ints]; rfl
    rw [e, e, Option.bind_some, Option.bind_some, if_pos ⟨shp a, shp b⟩]
    show some (D.bl (!PyData.eqvAll _ _)) = _
    rw [eqv]
def badW (r : Row) (i : Int) : Bool := decide (i < r.b) || (match r.e with
  | none => false
  | some e => decide (e < i))
theorem bad_within (r : Row) (i : Int) : badW r i = !within r i := by
  unfold badW within
  rw [Bool.eq_iff_iff]
  cases r.e with
  | none => simp
  | some e => simp
/-- filtered, thing by thing over two lists -/
theorem comp_zipF {α β : Type} {vs : List Nat} {g : Tg} {tt elt : E} {ρ : List Sl} {k : Dk} (f1 : α → D) (f2 : β → D) (p : α → β → Bool) (h : D) : ∀ (xs : List α) (ys : List β), (∀ (j : Nat) (x : α) (y : β), xs[j]? = some x → ys[j]? = some y → ∃ ρ1 ρ2, g (.tup [f1 x, f2 y]) ρ = some ρ1 ∧ tt ρ1 k = some (.bl (p x y), ρ2, k) ∧ elt ρ2 k = some (h, ρ2, k) ∧ wipeS ρ2 vs = ρ) →
    ∃ m, eCompGo vs g tt elt (List.zipWith (fun x y => .tup [x, y]) (xs.map f1) (ys.map f2)) ρ k = some (List.replicate m h, ρ, k) ∧ (m = 0 ↔ (List.zipWith p xs ys).any id = false)
  | [], _, _ => ⟨0, by simp only [List.map_nil, List.zipWith_nil_left]; rfl, by simp⟩
  | _ :: _, [], _ => ⟨0, by simp only [List.map_nil, List.zipWith_nil_right]; rfl, by simp⟩
  | x :: xs, y :: ys, H => by
    obtain ⟨ρ1, ρ2, h1, h2, h3, h4⟩ := H 0 x y rfl rfl
    obtain ⟨m, ih, hm⟩ := comp_zipF f1 f2 p h xs ys fun j x y a b => H (j + 1) x y a b
    rw [List.map_cons, List.map_cons, List.zipWith_cons_cons, List.zipWith_cons_cons, List.any_cons]
    unfold eCompGo
    rw [h1, Option.bind_some, h2, Option.bind_some]
    cases hp : p x y with
    | true =>
      refine ⟨m + 1, ?_, by simp⟩
      show ((elt ρ2 k).bind fun y => (eCompGo vs g tt elt _ (wipeS y.2.1 vs) y.2.2).map fun z => (y.1 :: z.1, z.2)) = _
      rw [h3, Option.bind_some]
      show (eCompGo vs g tt elt _ (wipeS ρ2 vs) k).map (fun z => (h :: z.1, z.2)) = _
      rw [h4, ih]
      rfl
    | false =>
      refine ⟨m, ?_, by simpa using hm⟩
      show eCompGo vs g tt elt _ (wipeS ρ2 vs) k = _
      rw [h4, ih]
theorem any_bad : ∀ (rs : List Row) (ns : List Int), (List.zipWith badW rs ns).any id = !allW rs ns
  | [], _ => by simp [allW]
  | _ :: _, [] => by simp [allW]
  | r :: rs, n :: ns => by
    have ih := any_bad rs ns
    unfold allW at ih ⊢
    rw [List.zipWith_cons_cons, List.zipWith_cons_cons, List.any_cons, List.all_cons, ih, bad_within]
    simp
theorem comp_whole {xs : List D} (hp : ∀ x ∈ xs, Pl x) {k : Dk} {a b c s3 s4 s6 : Sl} : eCompGo [5] (gSet 5) (eNot (eCallF 1 F__law_whole (aCons (eVar 5) aNil))) (eVar 5) xs [a, b, c, s3, s4, .no, s6] k = some (xs.filter (fun x => !wholeB x), [a, b, c, s3, s4, .no, s6], k) := by
  have := comp_pure (vs := [5]) (g := gSet 5) (tt := eNot (eCallF 1 F__law_whole (aCons (eVar 5) aNil))) (elt := eVar 5) (ρ := [a, b, c, s3, s4, .no, s6]) (k := k) (fun x => !wholeB x) id xs fun d hd => by
    refine ⟨_, [a, b, c, s3, s4, .val d, s6], rfl, ?_, fun _ => ⟨_, rfl, rfl⟩, fun _ => rfl⟩
    cases hw : wholeB d <;> simp! [is_whole_ok (hp d hd), hw]
  rw [this, List.map_id]
theorem sortD_ints {ns : List Int} : gSortedE [.tup (ns.map .int)] = some (.lst ((isort ns).map .int)) := by
  show sortD (ns.map .int) = _
  unfold sortD
  rw [intsOf_ints]
theorem listT_tup {xs : List D} (h : xs.length ≤ 1000) : gListT [.tup xs] = some (.lst xs) := by
  show gList [.tup xs] = _
  rfl
section
variable {rows rs : List Row} {o : List Nat} (R : Rws rows o rs) (ho : o.length ≤ 1000)
include R ho
theorem due_ok {d : D} (hp : Pl d) (k : Dk) : F__law_due [histD rows, ordD o, d] k = some (.bl (holdsB rs d), k) := by
  have ord : ordD o = .tup (o.map nD) := rfl
  unfold F__law_due body__law_due
  cases hp with
  | @tup xs hxs =>
    by_cases hl : xs.length = o.length
    · have nl : gNeE (.int (xs.length : Int)) (.int ((o.map nD).length : Int)) = some (.bl false) := by rw [List.length_map, neI, hl]; simp
      have sz : (xs.length < sizeLine) = True := eq_true (by rw [sizeLine_eq]; omega)
      have hc := @comp_whole xs hxs k (.val (histD rows)) (.val (.tup (o.map nD))) (.val (.tup xs)) .no .no .no
      have w0 : wipeS [Sl.val (histD rows), .val (.tup (o.map nD)), .val (.tup xs), .no, .no, .no, .no] [5] = [.val (histD rows), .val (.tup (o.map nD)), .val (.tup xs), .no, .no, .no, .no] := rfl
      by_cases hs : xs.all wholeB = true
      · obtain ⟨ns, e⟩ := ints_of_whole hs
        have hlen : ns.length = o.length := by rw [e, List.length_map] at hl; exact hl
        have hi : intsOf xs = some ns := by rw [e]; exact intsOf_ints ns
        have hB : holdsB rs (.tup xs) = (allW rs ns && ascB ns) := by
          rw [holds_tup, hi]
          have : xs.length = rs.length := by rw [R.len]; exact hl
          simp [this]
        have f0 : xs.filter (fun x => !wholeB x) = [] := by
          rw [List.filter_eq_nil_iff]
          intro x hx
          rw [List.all_eq_true] at hs
          simp [hs x hx]
        rw [f0] at hc
        have s1 : gListT [.tup xs] = some (.lst (ns.map .int)) := by rw [listT_tup (by omega), e]
        have s2 : gSortedE [.tup xs] = some (.lst ((isort ns).map .int)) := by rw [e, sortD_ints]
        have s3 := neL_ints ns (isort ns)
        rw [hB]
        by_cases ha : ns = isort ns
        · have hasc : ascB ns = true := by rw [asc_sort]; exact decide_eq_true ha
          have s3' : gNeE (.lst (ns.map .int)) (.lst ((isort ns).map .int)) = some (.bl false) := by rw [s3]; simp [← ha]
          have w1 : wipeS [Sl.val (histD rows), .val (.tup (o.map nD)), .val (.tup xs), .no, .no, .no, .no] [4] = [.val (histD rows), .val (.tup (o.map nD)), .val (.tup xs), .no, .no, .no, .no] := rfl
          have so : ((o.map nD).length < sizeLine) = True := eq_true (by rw [List.length_map, sizeLine_eq]; omega)
          have c1 : eCompGo [4] (gSet 4) (eC (.bl true)) (eOp gIx (eVar 0) (eVar 4)) (o.map nD) [.val (histD rows), .val (.tup (o.map nD)), .val (.tup xs), .no, .no, .no, .no] k = some ((o.map nD).map (fun d => (gIx (histD rows) d).getD .non), [.val (histD rows), .val (.tup (o.map nD)), .val (.tup xs), .no, .no, .no, .no], k) :=
            comp_map _ _ fun d hd => by
              obtain ⟨n, hn, rfl⟩ := List.mem_map.mp hd
              obtain ⟨j, hj⟩ := List.mem_iff_getElem?.mp hn
              obtain ⟨r, hr, _⟩ := R.at_ j n hj
              refine ⟨_, _, [.val (histD rows), .val (.tup (o.map nD)), .val (.tup xs), .no, .val (nD n), .no, .no], rfl, rfl, ?_, rfl⟩
              simp! [ix_hist hr, Option.getD_some]
          have e1 : (o.map nD).map (fun d => (gIx (histD rows) d).getD .non) = rs.map rowD := by
            refine List.ext_getElem? fun j => ?_
            rw [List.getElem?_map, List.getElem?_map, List.getElem?_map]
            cases h1 : o[j]? with
            | none =>
              have : rs[j]? = none := List.getElem?_eq_none_iff.mpr (by rw [R.len]; exact List.getElem?_eq_none_iff.mp h1)
              rw [this]; rfl
            | some n =>
              obtain ⟨r, hr, hr2⟩ := R.at_ j n h1
              rw [hr2]
              simp only [Option.map_some, ix_hist hr, Option.getD_some]
          rw [e1] at c1
          have w2 : wipeS [Sl.val (histD rows), .val (.tup (o.map nD)), .val (.tup xs), .val (.lst (rs.map rowD)), .no, .no, .no] [6, 5] = [.val (histD rows), .val (.tup (o.map nD)), .val (.tup xs), .val (.lst (rs.map rowD)), .no, .no, .no] := rfl
          have z1 : gZipG [.lst (rs.map rowD), .tup xs] = some (List.zipWith (fun x y => .tup [x, y]) (rs.map rowD) (ns.map .int)) := by rw [zip_gl, e]
          have z2 : (List.zipWith (fun x y => D.tup [x, y]) (rs.map rowD) (ns.map D.int)).length < sizeLine := by
            rw [List.length_zipWith, List.length_map, List.length_map, sizeLine_eq]; omega
          obtain ⟨m, c2, hm⟩ := comp_zipF (vs := [6, 5]) (g := gPair (gSet 6) (gSet 5)) (tt := eOr (eOp gLt (eVar 5) (eOp gIx (eVar 6) (eC (.int 3)))) (eAnd (eOp gIsNot (eOp gIx (eVar 6) (eC (.int 4))) (eC .non)) (eOp gGt (eVar 5) (eOp gIx (eVar 6) (eC (.int 4)))))) (elt := eC (.int 1)) (ρ := [.val (histD rows), .val (.tup (o.map nD)), .val (.tup xs), .val (.lst (rs.map rowD)), .no, .no, .no]) (k := k) rowD D.int badW (.int 1) rs ns fun j r i _ _ => by
            refine ⟨_, [.val (histD rows), .val (.tup (o.map nD)), .val (.tup xs), .val (.lst (rs.map rowD)), .no, .val (.int i), .val (rowD r)], rfl, ?_, rfl, rfl⟩
            unfold badW
            cases he : r.e with
            | none =>
              have e4 : gIx (rowD r) (.int 4) = some .non := by rw [ix4, he]; rfl
              by_cases h : i < r.b
              · simp! [ix3, e4, h, isNonD]; simp
              · simp! [ix3, e4, h, isNonD]; simp
            | some e =>
              have e4 : gIx (rowD r) (.int 4) = some (.int e) := by rw [ix4, he]; rfl
              by_cases h : i < r.b
              · simp! [ix3, e4, h, isNonD]; simp
              · simp! [ix3, e4, h, isNonD]; simp
          rw [any_bad] at hm
          have q1 : gEqE (.lst (List.replicate m (.int 1))) (.lst []) = some (.bl (allW rs ns)) := by
            rw [r_eqL0]
            congr 2
            cases hw : allW rs ns with
            | true =>
              rw [hw] at hm
              rw [hm.mpr rfl]; rfl
            | false =>
              rw [hw] at hm
              cases m with
              | zero => exact absurd (hm.mp rfl) (by simp)
              | succ m => rfl
          rw [hasc, Bool.and_true]
          simp! [ord, nl, sz, so, hc, w0, List.isEmpty_nil, s1, s2, s3', w1, c1, w2, z1, z2, c2, q1]
        · have hasc : ascB ns = false := by rw [asc_sort]; exact decide_eq_false ha
          have s3' : gNeE (.lst (ns.map .int)) (.lst ((isort ns).map .int)) = some (.bl true) := by rw [s3]; simp [ha]
          rw [hasc, Bool.and_false]
          simp! [ord, nl, sz, hc, w0, List.isEmpty_nil, s1, s2, s3']
      · have hs' : xs.all wholeB = false := by simpa using hs
        have hB : holdsB rs (.tup xs) = false := by
          rw [holds_tup, intsOf_none hs']; simp
        have f1 : (xs.filter (fun x => !wholeB x)).isEmpty = false := by
          rw [Bool.eq_false_iff]
          intro h
          rw [List.isEmpty_iff, List.filter_eq_nil_iff] at h
          rw [Bool.eq_false_iff] at hs'
          apply hs'
          rw [List.all_eq_true]
          intro x hx
          simpa using h x hx
        rw [hB]
        simp! [ord, nl, sz, hc, w0, f1]
    · have nl : gNeE (.int (xs.length : Int)) (.int ((o.map nD).length : Int)) = some (.bl true) := by rw [List.length_map, neI]; simp [hl]
      have hB : holdsB rs (.tup xs) = false := by
        rw [holds_tup]
        have : ¬ xs.length = rs.length := by rw [R.len]; exact hl
        simp [this]
      rw [hB]
      simp! [ord, nl]
  | _ => simp! []; rfl
end
end W30
namespace W30
open PySem PySem.Spec L2
open WS hiding DkOk draw_ok
theorem at_born {st ex : List D} {n : Nat} {d : D} (h : st[n]? = some d) : (st ++ ex)[n]? = some d := by
  rw [List.getElem?_append_left (List.getElem?_eq_some_iff.mp h).1]; exact h
theorem at_set {st : List D} {n : Nat} {d e : D} (h : st[n]? = some d) : (st.set n e)[n]? = some e := by
  rw [List.getElem?_set_self (List.getElem?_eq_some_iff.mp h).1]
theorem at_new {st : List D} {d : D} : (st ++ [d])[st.length]? = some d := by simp
theorem nls_ints : ∀ is : List Int, nls (is.map D.int) = true
  | [] => rfl
  | i :: r => by
    show (nl (.int i) && nls (r.map D.int)) = true
    rw [nls_ints r]; rfl
theorem nl_tints {is : List Int} : (nl (.tup (is.map D.int)) = true) = True := by
  have : nl (.tup (is.map D.int)) = nls (is.map D.int) := rfl
  rw [this, nls_ints]; simp
theorem range0 {n : Nat} (h : n ≤ 100000) : gRange1 [.int (n : Int)] = some ((List.range n).map nD) := by
  rw [r_range1 (j := (n : Int)) ⟨by omega, by omega⟩]
  unfold rangeD
  congr 1
  refine List.map_congr_left fun i _ => ?_
  show D.int (0 + (i : Int) * 1) = .int (i : Int)
  congr 1; omega
def minE (far : Int) (r : Row) : Int := match r.e with
  | none => far
  | some e => min far e
def sufMin : List Row → Int → Int
  | [], far => far
  | r :: rs, far => minE (sufMin rs far) r
theorem r_max' {i j : Int} : gMax2 [.int i, .int j] = some (.int (max i j)) := by
  show some (D.int (if j > i then j else i)) = _
  congr 2
  by_cases h : j > i
  · rw [if_pos h]; omega
  · rw [if_neg h]; omega
theorem drop_one {α : Type} {l : List α} {i : Nat} (h : i < l.length) : l.drop i = l[i] :: l.drop (i + 1) := List.drop_eq_getElem_cons h
section
variable {rows rs : List Row} {o : List Nat} (R : Rws rows o rs) (ho : o.length ≤ 1000)
include R ho
theorem latest_ok {far : Int} {st : List D} {n : Nat} {k : Dk} (h : DkS st n k) :
    ∃ st' k', F__law_latest [histD rows, ordD o, .int far] k = some (.lst ((List.range o.length).map fun i => .int (sufMin (rs.drop i) far)), k') ∧ DkS st' n k' := by
  obtain ⟨c, a, u, rfl, h1, h2, h3⟩ := h
  have ord : ordD o = .tup (o.map nD) := rfl
  have hrl := R.len
  -- how it stands amid the loop
  let I : Nat → List Sl → Dk → Prop := fun i ρ k => ∃ s5 s6 st2, ρ = [.val (histD rows), .val (.tup (o.map nD)), .val (.int far), .val (.loc st.length), .val (.int (sufMin (rs.drop (o.length - i)) far)), s5, s6] ∧ k = some (c, a, u, st2) ∧
    st2[st.length]? = some (.lst (((List.range i).map fun j => D.int (sufMin (rs.drop (o.length - 1 - j)) far))))
  have hI0 : I 0 [.val (histD rows), .val (.tup (o.map nD)), .val (.int far), .val (.loc st.length), .val (.int far), .no, .no] (some (c, a, u, st ++ [.lst []])) := by
    refine ⟨.no, .no, _, ?_, rfl, at_new⟩
    rw [Nat.sub_zero, List.drop_of_length_le (by omega)]
    rfl
  obtain ⟨ρ', k', e1, e2⟩ := for_inv (g := gSet 5) (body := L1__law_latest) I (o.map nD).reverse 0 _ _ hI0 fun i d hd ρ k hI => by
    obtain ⟨s5, s6, st2, rfl, rfl, hst⟩ := hI
    rw [Nat.zero_add] at hst ⊢
    have hi : i < o.length := by
      have := (List.getElem?_eq_some_iff.mp hd).1
      simpa using this
    rw [List.getElem?_reverse (by simpa using hi), List.length_map, List.getElem?_map] at hd
    obtain ⟨m, hm, hd⟩ := Option.map_eq_some_iff.mp hd
    subst hd
    obtain ⟨r, hr, hr2⟩ := R.at_ _ m hm
    have hdr : rs.drop (o.length - (i + 1)) = r :: rs.drop (o.length - i) := by
      have hlt : o.length - (i + 1) < rs.length := by omega
      rw [drop_one hlt]
      have q : rs[o.length - (i + 1)]? = some r := by rw [show o.length - (i + 1) = o.length - 1 - i by omega]; exact hr2
      have : rs[o.length - (i + 1)] = r := (List.getElem?_eq_some_iff.mp q).2
      rw [this, show o.length - (i + 1) + 1 = o.length - i by omega]
    have hsl : (List.map (fun j => D.int (sufMin (rs.drop (o.length - 1 - j)) far)) (List.range i)).length < sizeLine := by
      rw [List.length_map, List.length_range, sizeLine_eq]; omega
    have hnew : ∀ x : Int, x = sufMin (r :: rs.drop (o.length - i)) far → (List.map (fun j => D.int (sufMin (rs.drop (o.length - 1 - j)) far)) (List.range i)) ++ [.int x] = (List.range (i + 1)).map fun j => D.int (sufMin (rs.drop (o.length - 1 - j)) far) := fun x hx => by
      rw [List.range_succ, List.map_append, List.map_cons, List.map_nil]
      congr 3
      rw [hx, ← hdr, show o.length - (i + 1) = o.length - 1 - i by omega]
    have fin : ∀ x : Int, x = sufMin (r :: rs.drop (o.length - i)) far → ∀ q6, L1__law_latest [.val (histD rows), .val (.tup (o.map nD)), .val (.int far), .val (.loc st.length), .val (.int (sufMin (rs.drop (o.length - i)) far)), .val (nD m), s6] (some (c, a, u, st2)) = some (.nx, [.val (histD rows), .val (.tup (o.map nD)), .val (.int far), .val (.loc st.length), .val (.int x), .val (nD m), q6], some (c, a, u, st2.set st.length (.lst ((List.map (fun j => D.int (sufMin (rs.drop (o.length - 1 - j)) far)) (List.range i)) ++ [.int x])))) →
        ∃ ρ1 ρ2 k2, gSet 5 (nD m) [.val (histD rows), .val (.tup (o.map nD)), .val (.int far), .val (.loc st.length), .val (.int (sufMin (rs.drop (o.length - i)) far)), s5, s6] = some ρ1 ∧ L1__law_latest ρ1 (some (c, a, u, st2)) = some (.nx, ρ2, k2) ∧ I (i + 1) ρ2 k2 := fun x hx q6 e => by
      refine ⟨_, _, _, rfl, e, .val (nD m), q6, _, ?_, rfl, ?_⟩
      · rw [hdr, ← hx]
      · rw [at_set hst, hnew x hx]
    have ap : ∀ x : Int, mAppend (List.map (fun j => D.int (sufMin (rs.drop (o.length - 1 - j)) far)) (List.range i)) [.int x] = some (.non, (List.map (fun j => D.int (sufMin (rs.drop (o.length - 1 - j)) far)) (List.range i)) ++ [.int x]) := fun x => if_pos hsl
    cases he : r.e with
    | none =>
      have e4 : gIx (rowD r) (.int 4) = some .non := by rw [ix4, he]; rfl
      refine fin (sufMin (rs.drop (o.length - i)) far) (by show _ = minE _ r; unfold minE; rw [he]) (.val .non) ?_
      unfold L1__law_latest
      simp! [ap_newL, ap_listN, ap_opS, ap_unS, ap_appS, ap_setLS, ap_setDS, ap_get2S, ap_dispN, ap_newD0, ap_dictPN, ap_sortDK, ap_unp, ap_mtS, ap_dpopS, stOf_some, born_some, poke_some, lc_loc, Nat.zero_le, drf_int, drf_str, drf_non, drf_bl, drf_tup, drf_lst, drf_dct, nl_int, nl_str, nl_bl, nl_non, nl_loc, dct_of, seq_l, seq_t, isLs_l, ap_par2, ap_inS, ap_revS, lsOf_l, ix_hist hr, e4, isNonD, lsAt_of hst, ap]
    | some e =>
      have e4 : gIx (rowD r) (.int 4) = some (.int e) := by rw [ix4, he]; rfl
      refine fin (min (sufMin (rs.drop (o.length - i)) far) e) (by show _ = minE _ r; unfold minE; rw [he]) (.val (.int e)) ?_
      unfold L1__law_latest
      have hm : (if e < sufMin (rs.drop (o.length - i)) far then e else sufMin (rs.drop (o.length - i)) far) = min (sufMin (rs.drop (o.length - i)) far) e := by
        split <;> omega
      simp! [ap_newL, ap_listN, ap_opS, ap_unS, ap_appS, ap_setLS, ap_setDS, ap_get2S, ap_dispN, ap_newD0, ap_dictPN, ap_sortDK, ap_unp, ap_mtS, ap_dpopS, stOf_some, born_some, poke_some, lc_loc, Nat.zero_le, drf_int, drf_str, drf_non, drf_bl, drf_tup, drf_lst, drf_dct, nl_int, nl_str, nl_bl, nl_non, nl_loc, dct_of, seq_l, seq_t, isLs_l, ap_par2, ap_inS, ap_revS, lsOf_l, ix_hist hr, e4, isNonD, hm, lsAt_of hst, ap]
  obtain ⟨s5, s6, st2, rfl, rfl, hst⟩ := e2
  rw [Nat.zero_add, List.length_reverse, List.length_map] at hst
  refine ⟨st2, some (c, a, u, st2), ?_, c, a, u, rfl, h1, h2, h3⟩
  have hrev : ((List.range o.length).map fun j => D.int (sufMin (rs.drop (o.length - 1 - j)) far)).reverse = (List.range o.length).map fun i => D.int (sufMin (rs.drop i) far) := by
    refine List.ext_getElem? fun j => ?_
    by_cases hj : j < o.length
    · rw [List.getElem?_reverse (by simpa using hj), List.length_map, List.length_range, List.getElem?_map, List.getElem?_map, List.getElem?_range (by omega), List.getElem?_range hj]
      simp only [Option.map_some]
      congr 4
      omega
    · rw [List.getElem?_eq_none_iff.mpr (by simp; omega), List.getElem?_eq_none_iff.mpr (by simp; omega)]
  unfold F__law_latest body__law_latest
  simp! [ap_newL, ap_listN, ap_opS, ap_unS, ap_appS, ap_setLS, ap_setDS, ap_get2S, ap_dispN, ap_newD0, ap_dictPN, ap_sortDK, ap_unp, ap_mtS, ap_dpopS, stOf_some, born_some, poke_some, lc_loc, Nat.zero_le, drf_int, drf_str, drf_non, drf_bl, drf_tup, drf_lst, drf_dct, nl_int, nl_str, nl_bl, nl_non, nl_loc, dct_of, seq_l, seq_t, isLs_l, ap_par2, ap_inS, ap_revS, lsOf_l, ord, small_lineE, e1, drf_ls hst, hrev]
end
def maxB : List Row → Int
  | [] => 0
  | r :: rs => rs.foldl (fun m x => max m x.b) r.b
theorem maxB_ge : ∀ (rs : List Row) (m : Int), m ≤ rs.foldl (fun m x => max m x.b) m ∧ ∀ r ∈ rs, r.b ≤ rs.foldl (fun m x => max m x.b) m
  | [], m => ⟨Int.le_refl _, by simp⟩
  | r :: rs, m => by
    obtain ⟨h1, h2⟩ := maxB_ge rs (max m r.b)
    refine ⟨by show m ≤ rs.foldl _ (max m r.b); omega, fun x hx => ?_⟩
    show x.b ≤ rs.foldl _ (max m r.b)
    rcases List.mem_cons.mp hx with e | hx
    · rw [e]; omega
    · exact h2 x hx
theorem maxB_le : ∀ (rs : List Row) (m z : Int), m ≤ z → (∀ r ∈ rs, r.b ≤ z) → rs.foldl (fun m x => max m x.b) m ≤ z
  | [], m, z, h, _ => h
  | r :: rs, m, z, h, g => maxB_le rs (max m r.b) z (by have := g r List.mem_cons_self; omega) fun x hx => g x (List.mem_cons_of_mem _ hx)
theorem maxB_mem {rs : List Row} {r : Row} (h : r ∈ rs) : r.b ≤ maxB rs := by
  cases rs with
  | nil => cases h
  | cons x rs =>
    obtain ⟨h1, h2⟩ := maxB_ge rs x.b
    rcases List.mem_cons.mp h with e | h
    · rw [e]; exact h1
    · exact h2 r h
theorem maxB_bound {rs : List Row} {z : Int} (h0 : rs ≠ []) (h : ∀ r ∈ rs, r.b ≤ z) : maxB rs ≤ z := by
  cases rs with
  | nil => exact absurd rfl h0
  | cons x rs => exact maxB_le rs x.b z (h x List.mem_cons_self) fun r hr => h r (List.mem_cons_of_mem _ hr)
theorem gmax_rows {rs : List Row} (h : rs ≠ []) : gMaxL [.lst (rs.map fun r => .int r.b)] = some (.int (maxB rs)) := by
  cases rs with
  | nil => exact absurd rfl h
  | cons x rs =>
    have e : (x :: rs).map (fun r => D.int r.b) = ((x :: rs).map (·.b)).map D.int := by rw [List.map_map]; rfl
    unfold gMaxL
    rw [e]
    show (intsOf _).bind _ = _
    rw [intsOf_ints, Option.bind_some]
    show some (D.int ((rs.map (·.b)).foldl max x.b)) = _
    rw [List.foldl_map]
    rfl
section
variable {rows rs : List Row} {o : List Nat} (R : Rws rows o rs) (ho : o.length ≤ 1000)
include R ho
/-- the least steps -/
theorem least_comp {k : Dk} {s3 s5 s6 s7 s8 s9 : Sl} {s4 : Sl} : eCompGo [10] (gSet 10) (eC (.bl true)) (eApp gMaxL (aCons (eComp (iSrc (eSl (eVar 2) oNone (oSome (eOp gAddB (eVar 10) (eC (.int 1)))))) [11] (gSet 11) (eC (.bl true)) (eOp gIx (eOp gIx (eVar 1) (eVar 11)) (eC (.int 3)))) aNil)) ((List.range o.length).map nD) [.val .deck, .val (histD rows), .val (.tup (o.map nD)), s3, s4, s5, s6, s7, s8, s9, .no, .no] k
    = some ((List.range o.length).map fun i => .int (maxB (rs.take (i + 1))), [.val .deck, .val (histD rows), .val (.tup (o.map nD)), s3, s4, s5, s6, s7, s8, s9, .no, .no], k) := by
  have hrl := R.len
  have key := comp_map (vs := [10]) (g := gSet 10) (tt := eC (.bl true)) (elt := eApp gMaxL (aCons (eComp (iSrc (eSl (eVar 2) oNone (oSome (eOp gAddB (eVar 10) (eC (.int 1)))))) [11] (gSet 11) (eC (.bl true)) (eOp gIx (eOp gIx (eVar 1) (eVar 11)) (eC (.int 3)))) aNil)) (ρ := [.val .deck, .val (histD rows), .val (.tup (o.map nD)), s3, s4, s5, s6, s7, s8, s9, .no, .no]) (k := k) (fun d => match d with
      | .int i => .int (maxB (rs.take (i.toNat + 1)))
      | _ => .non) ((List.range o.length).map nD) fun d hd => by
    obtain ⟨i, hi, rfl⟩ := List.mem_map.mp hd
    have hi := List.mem_range.mp hi
    refine ⟨_, _, [.val .deck, .val (histD rows), .val (.tup (o.map nD)), s3, s4, s5, s6, s7, s8, s9, .val (nD i), .no], rfl, rfl, ?_, rfl⟩
    have cut : gSl (.tup (o.map nD)) none (some ((i : Int) + 1)) = some (.tup ((o.take (i + 1)).map nD)) := by
      rw [sl_to (by omega), show ((i : Int) + 1).toNat = i + 1 by omega, List.map_take]
    have sz : (((o.take (i + 1)).map nD).length < sizeLine) = True := eq_true (by rw [List.length_map, List.length_take, sizeLine_eq]; omega)
    have c1 : eCompGo [11] (gSet 11) (eC (.bl true)) (eOp gIx (eOp gIx (eVar 1) (eVar 11)) (eC (.int 3))) ((o.take (i + 1)).map nD) [.val .deck, .val (histD rows), .val (.tup (o.map nD)), s3, s4, s5, s6, s7, s8, s9, .val (nD i), .no] k = some (((o.take (i + 1)).map nD).map (fun d => ((gIx (histD rows) d).bind fun r => gIx r (.int 3)).getD .non), [.val .deck, .val (histD rows), .val (.tup (o.map nD)), s3, s4, s5, s6, s7, s8, s9, .val (nD i), .no], k) :=
      comp_map _ _ fun d hd => by
        obtain ⟨m, hm, rfl⟩ := List.mem_map.mp hd
        obtain ⟨j, hj⟩ := List.mem_iff_getElem?.mp (List.mem_of_mem_take hm)
        obtain ⟨r, hr, _⟩ := R.at_ j m hj
        refine ⟨_, _, [.val .deck, .val (histD rows), .val (.tup (o.map nD)), s3, s4, s5, s6, s7, s8, s9, .val (nD i), .val (nD m)], rfl, rfl, ?_, rfl⟩
        simp! [ix_hist hr, ix3, Option.getD_some]
    have e1 : ((o.take (i + 1)).map nD).map (fun d => ((gIx (histD rows) d).bind fun r => gIx r (.int 3)).getD .non) = (rs.take (i + 1)).map fun r => D.int r.b := by
      refine List.ext_getElem? fun j => ?_
      rw [List.getElem?_map, List.getElem?_map, List.getElem?_map, List.getElem?_take, List.getElem?_take]
      by_cases hj : j < i + 1
      · rw [if_pos hj, if_pos hj]
        cases h1 : o[j]? with
        | none =>
          have : rs[j]? = none := List.getElem?_eq_none_iff.mpr (by rw [hrl]; exact List.getElem?_eq_none_iff.mp h1)
          rw [this]; rfl
        | some m =>
          obtain ⟨r, hr, hr2⟩ := R.at_ j m h1
          rw [hr2]
          simp only [Option.map_some, ix_hist hr, Option.bind_some, ix3, Option.getD_some]
      · rw [if_neg hj, if_neg hj]; rfl
    rw [e1] at c1
    have ne : rs.take (i + 1) ≠ [] := by
      intro e
      have := congrArg List.length e
      rw [List.length_take, List.length_nil] at this
      omega
    have w0 : wipeS [Sl.val .deck, .val (histD rows), .val (.tup (o.map nD)), s3, s4, s5, s6, s7, s8, s9, .val (nD i), .no] [11] = [Sl.val .deck, .val (histD rows), .val (.tup (o.map nD)), s3, s4, s5, s6, s7, s8, s9, .val (nD i), .no] := rfl
    have hi0 : ∀ j : Int, gAddB (nD i) (.int j) = some (.int ((i : Int) + j)) := fun j => rfl
    simp! [hi0, cut, sz, w0, c1, gmax_rows ne]
    rfl
  rw [key, List.map_map]
  rfl
end
end W30
namespace W30
open PySem PySem.Spec L2
open WS hiding DkOk draw_ok
structure Fit (far : Int) (rs : List Row) : Prop where
  b0 : ∀ r ∈ rs, 0 ≤ r.b ∧ r.b ≤ far
  g : ∀ (i j : Nat) (a b : Row) (e : Int), i ≤ j → rs[i]? = some a → rs[j]? = some b → b.e = some e → a.b ≤ e
structure Okn (rs : List Row) (ns : List Int) : Prop where
  len : ns.length = rs.length
  w : allW rs ns = true
  s : ascB ns = true
  bd : ∀ x ∈ ns, 0 ≤ x ∧ x ≤ 5000
theorem Okn.holds {rs : List Row} {ns : List Int} (h : Okn rs ns) : holdsB rs (.tup (ns.map .int)) = true := by
  rw [holds_tup, intsOf_ints, List.length_map]
  simp [h.len, h.w, h.s]
def lo (rs : List Row) (i : Nat) : Int := maxB (rs.take (i + 1))
def hi (rs : List Row) (i : Nat) : Int := sufMin (rs.drop i) 5000
theorem sufMin_le {far : Int} : ∀ {rs : List Row}, sufMin rs far ≤ far ∧ ∀ r ∈ rs, ∀ e, r.e = some e → sufMin rs far ≤ e
  | [] => ⟨Int.le_refl _, by simp⟩
  | r :: rs => by
    obtain ⟨h1, h2⟩ := sufMin_le (far := far) (rs := rs)
    have h3 : sufMin (r :: rs) far ≤ sufMin rs far := by
      show minE _ r ≤ _
      unfold minE
      split <;> omega
    refine ⟨Int.le_trans h3 h1, fun x hx e he => ?_⟩
    rcases List.mem_cons.mp hx with q | hx
    · rw [q] at he
      show minE _ r ≤ _
      unfold minE
      rw [he]
      dsimp only
      omega
    · exact Int.le_trans h3 (h2 x hx e he)
theorem sufMin_ge {far z : Int} : ∀ {rs : List Row}, z ≤ far → (∀ r ∈ rs, ∀ e, r.e = some e → z ≤ e) → z ≤ sufMin rs far
  | [], h, _ => h
  | r :: rs, h, g => by
    have ih := sufMin_ge (rs := rs) h fun x hx => g x (List.mem_cons_of_mem _ hx)
    show z ≤ minE _ r
    unfold minE
    cases he : r.e with
    | none => exact ih
    | some e =>
      have := g r List.mem_cons_self e he
      dsimp only
      omega
theorem sufMin_cons {far : Int} {r : Row} {rs : List Row} : sufMin (r :: rs) far ≤ sufMin rs far := by
  show minE _ r ≤ _
  unfold minE
  split <;> omega
section
variable {rs : List Row} (F : Fit 5000 rs)
include F
theorem lo_hi {i : Nat} (h : i < rs.length) : lo rs i ≤ hi rs i := by
  unfold lo hi
  refine maxB_bound (fun e => ?_) fun a ha => sufMin_ge (F.b0 a (List.mem_of_mem_take ha)).2 fun b hb e he => ?_
  · have := congrArg List.length e
    rw [List.length_take, List.length_nil] at this
    omega
  · obtain ⟨j, hj⟩ := List.mem_iff_getElem?.mp ha
    obtain ⟨l, hl⟩ := List.mem_iff_getElem?.mp hb
    rw [List.getElem?_take] at hj
    rw [List.getElem?_drop] at hl
    by_cases hji : j < i + 1
    · rw [if_pos hji] at hj
      exact F.g j (i + l) a b e (by omega) hj hl he
    · rw [if_neg hji] at hj; cases hj
theorem lo_0 {i : Nat} (h : i < rs.length) : 0 ≤ lo rs i := by
  have hm : rs[i] ∈ rs.take (i + 1) := by
    refine List.mem_iff_getElem?.mpr ⟨i, ?_⟩
    rw [List.getElem?_take, if_pos (by omega), List.getElem?_eq_getElem h]
  have := maxB_mem hm
  have := (F.b0 rs[i] (List.getElem_mem h)).1
  unfold lo
  omega
end
theorem hi_5 {rs : List Row} {i : Nat} : hi rs i ≤ 5000 := sufMin_le.1
theorem lo_b {rs : List Row} {i : Nat} {r : Row} (h : rs[i]? = some r) : r.b ≤ lo rs i := by
  refine maxB_mem (List.mem_iff_getElem?.mpr ⟨i, ?_⟩)
  rw [List.getElem?_take, if_pos (by omega), h]
theorem hi_e {rs : List Row} {i : Nat} {r : Row} {e : Int} (h : rs[i]? = some r) (he : r.e = some e) : hi rs i ≤ e := by
  refine sufMin_le.2 r (List.mem_iff_getElem?.mpr ⟨0, ?_⟩) e he
  rw [List.getElem?_drop, Nat.add_zero, h]
theorem hi_up {rs : List Row} {i : Nat} (h : i < rs.length) : hi rs i ≤ hi rs (i + 1) := by
  unfold hi
  rw [drop_one h]
  exact sufMin_cons
theorem lo_up {rs : List Row} {i : Nat} (h : i < rs.length) : lo rs i ≤ lo rs (i + 1) := by
  unfold lo
  refine maxB_bound (fun e => ?_) fun a ha => maxB_mem ?_
  · have := congrArg List.length e
    rw [List.length_take, List.length_nil] at this
    omega
  · obtain ⟨j, hj⟩ := List.mem_iff_getElem?.mp ha
    rw [List.getElem?_take] at hj
    by_cases hji : j < i + 1
    · rw [if_pos hji] at hj
      refine List.mem_iff_getElem?.mpr ⟨j, ?_⟩
      rw [List.getElem?_take, if_pos (by omega), hj]
    · rw [if_neg hji] at hj; cases hj
theorem mono_pw {f : Nat → Int} {m : Nat} (h : ∀ i, i + 1 < m → f i ≤ f (i + 1)) : ((List.range m).map f).Pairwise (· ≤ ·) := by
  rw [List.pairwise_map]
  have key : ∀ d i : Nat, i + d < m → f i ≤ f (i + d) := fun d => by
    induction d with
    | zero => intro i _; exact Int.le_refl _
    | succ d ih =>
      intro i hi
      have h1 := ih i (by omega)
      have h2 := h (i + d) (by omega)
      rw [show i + (d + 1) = i + d + 1 by omega]
      exact Int.le_trans h1 h2
  refine List.Pairwise.imp_of_mem ?_ (List.pairwise_lt_range (n := m))
  intro a b ha hb hab
  have hb := List.mem_range.mp hb
  have := key (b - a) a (by omega)
  rw [show a + (b - a) = b by omega] at this
  exact this
theorem okn_of {rs : List Row} {ns : List Int} (F : Fit 5000 rs) (hl : ns.length = rs.length) (hb : ∀ (i : Nat) (x : Int), ns[i]? = some x → lo rs i ≤ x ∧ x ≤ hi rs i) (hp : ns.Pairwise (· ≤ ·)) : Okn rs ns := by
  refine ⟨hl, ?_, asc_iff.mpr hp, fun x hx => by
    obtain ⟨i, hi'⟩ := List.mem_iff_getElem?.mp hx
    have hil : i < rs.length := by rw [← hl]; exact (List.getElem?_eq_some_iff.mp hi').1
    obtain ⟨q1, q2⟩ := hb i x hi'
    have q3 := lo_0 F hil
    have q4 := hi_5 (rs := rs) (i := i)
    omega⟩
  unfold allW
  rw [List.all_eq_true]
  intro t ht
  obtain ⟨j, hj⟩ := List.mem_iff_getElem?.mp ht
  rw [List.getElem?_zipWith] at hj
  cases h1 : rs[j]? with
  | none => rw [h1] at hj; simp at hj
  | some r =>
    cases h2 : ns[j]? with
    | none => rw [h1, h2] at hj; simp at hj
    | some x =>
      rw [h1, h2] at hj
      have hj : within r x = t := by simpa using hj
      rw [← hj]
      obtain ⟨q1, q2⟩ := hb j x h2
      show within r x = true
      have q3 := lo_b h1
      unfold within
      cases he : r.e with
      | none => simp; omega
      | some e =>
        have := hi_e h1 he
        simp; omega
theorem okn_fn {rs : List Row} (F : Fit 5000 rs) {f : Nat → Int} (h : ∀ i, i < rs.length → lo rs i ≤ f i ∧ f i ≤ hi rs i) (u : ∀ i, i + 1 < rs.length → f i ≤ f (i + 1)) : Okn rs ((List.range rs.length).map f) := by
  refine okn_of F (by simp) (fun i x hx => ?_) (mono_pw u)
  rw [List.getElem?_map] at hx
  by_cases hi' : i < rs.length
  · rw [List.getElem?_range hi', Option.map_some, Option.some.injEq] at hx
    rw [← hx]; exact h i hi'
  · rw [List.getElem?_eq_none_iff.mpr (by simpa using hi')] at hx; cases hx
theorem zip_fns (f g : Nat → Int) (m : Nat) : List.zipWith (fun x y => D.tup [x, y]) ((List.range m).map fun i => D.int (f i)) ((List.range m).map fun i => D.int (g i)) = (List.range m).map fun i => D.tup [.int (f i), .int (g i)] := by
  rw [List.zipWith_map, List.zipWith_self]
section
variable {rows rs : List Row} {o : List Nat} (R : Rws rows o rs) (ho : o.length ≤ 1000) (F : Fit 5000 rs)
include R ho F
theorem steps_ok {st : List D} {n : Nat} {k : Dk} (h : DkS st n k) (hn : n < 1000000000) :
    ∃ ns st' k', F__law_steps [.deck, histD rows, ordD o] k = some (.tup (ns.map .int), k') ∧ Okn rs ns ∧ DkS st' (n + 1 + o.length) k' := by
  have ord : ordD o = .tup (o.map nD) := rfl
  have hrl := R.len
  obtain ⟨w, k1, e1, w0, w3, d1⟩ := draw_ok h 3 ⟨by omega, by omega⟩ (by omega)
  have hl : gLen [.tup (o.map nD)] = some (.int (o.length : Int)) := by rw [r_lenT, List.length_map]
  have rg := range0 (n := o.length) (by omega)
  have rz : (((List.range o.length).map nD).length < sizeLine) = True := eq_true (by rw [List.length_map, List.length_range, sizeLine_eq]; omega)
  have lc := @least_comp rows rs o R ho k1 (.val (.int w)) .no .no .no .no .no .no
  have wp : wipeS [Sl.val .deck, .val (histD rows), .val (.tup (o.map nD)), .val (.int w), .no, .no, .no, .no, .no, .no, .no, .no] [10] = [.val .deck, .val (histD rows), .val (.tup (o.map nD)), .val (.int w), .no, .no, .no, .no, .no, .no, .no, .no] := rfl
  obtain ⟨st1, k2, el, d2⟩ := latest_ok R ho (far := 5000) d1
  have el : F__law_latest [histD rows, .tup (o.map nD), .int 5000] k1 = some (.lst ((List.range o.length).map fun i => .int (hi rs i)), k2) := el
  have lc : eCompGo [10] (gSet 10) (eC (.bl true)) (eApp gMaxL (aCons (eComp (iSrc (eSl (eVar 2) oNone (oSome (eOp gAddB (eVar 10) (eC (.int 1)))))) [11] (gSet 11) (eC (.bl true)) (eOp gIx (eOp gIx (eVar 1) (eVar 11)) (eC (.int 3)))) aNil)) ((List.range o.length).map nD) [.val .deck, .val (histD rows), .val (.tup (o.map nD)), .val (.int w), .no, .no, .no, .no, .no, .no, .no, .no] k1
    = some ((List.range o.length).map fun i => .int (lo rs i), [.val .deck, .val (histD rows), .val (.tup (o.map nD)), .val (.int w), .no, .no, .no, .no, .no, .no, .no, .no], k1) := lc
  obtain ⟨c, a, u, rfl, g1, g2, g3⟩ := id d2
  have gz : gListZ [.lst ((List.range o.length).map fun i => .int (lo rs i)), .lst ((List.range o.length).map fun i => .int (hi rs i))] = some (.lst ((List.range o.length).map fun i => D.tup [.int (lo rs i), .int (hi rs i)])) := by
    unfold gListZ gZipG
    simp only [srcD, Option.bind_some, Option.map_some]
    rw [zip_fns, if_pos (by rw [List.length_map, List.length_range, sizeLine_eq]; omega)]
  have mul0 : ∀ xs : List D, xs.length ≤ 1000 → gMulB (.lst xs) (.int 0) = some (.lst []) := fun xs hx => by rw [r_mulLs ⟨by omega, by omega, hx⟩]; rfl
  have mul1 : ∀ xs : List D, xs.length ≤ 1000 → gMulB (.lst xs) (.int 1) = some (.lst xs) := fun xs hx => by rw [r_mulLs ⟨by omega, by omega, hx⟩]; simp
  have hz : ((List.range o.length).map fun i => D.tup [.int (lo rs i), .int (hi rs i)]).length ≤ 1000 := by simp; exact ho
  have iF : ∀ f : Nat → Int, ((List.range o.length).map fun i => D.int (f i)) = ((List.range o.length).map f).map D.int := fun f => by rw [List.map_map]; rfl
  have nlF : ∀ f : Nat → Int, (nl (.tup ((List.range o.length).map fun i => D.int (f i))) = true) = True := fun f => by rw [iF, nl_tints]
  have fnl : ∀ ρ k, sForGo (gPair (gSet 8) (gSet 9)) L1__law_steps [] ρ k = some (.nx, ρ, k) := fun ρ k => rfl
  have hw : w = 0 ∨ w = 1 ∨ w = 2 := by omega
  rcases hw with rfl | rfl | rfl
  · have ix : gIx (.lst [.lst ((List.range o.length).map fun i => .int (lo rs i)), .lst ((List.range o.length).map fun i => .int (hi rs i)), .loc st1.length]) (.int 0) = some (.lst ((List.range o.length).map fun i => .int (lo rs i))) := rfl
    refine ⟨(List.range rs.length).map (lo rs), st1 ++ [.lst []], some (c, a, u, st1 ++ [.lst []]), ?_, okn_fn F (fun i hi' => ⟨Int.le_refl _, lo_hi F hi'⟩) (fun i hi' => lo_up (by omega)), c, a, u, rfl, g1, g2, by omega⟩
    unfold F__law_steps body__law_steps
    rw [hrl, ← iF]
    simp! [ap_newL, ap_listN, ap_opS, ap_unS, ap_appS, ap_setLS, ap_setDS, ap_get2S, ap_dispN, ap_newD0, ap_dictPN, ap_sortDK, ap_unp, ap_mtS, ap_dpopS, stOf_some, born_some, poke_some, lc_loc, Nat.zero_le, drf_int, drf_str, drf_non, drf_bl, drf_tup, drf_lst, drf_dct, nl_int, nl_str, nl_bl, nl_non, nl_loc, dct_of, seq_l, seq_t, isLs_l, ap_par2, ap_inS, ap_revS, lsOf_l, ord, e1, hl, rg, rz, wp, lc, el, ix, gz, mul0 _ hz, fnl, List.map_cons, List.map_nil, nlF, small_lineE]
  · have ix : gIx (.lst [.lst ((List.range o.length).map fun i => .int (lo rs i)), .lst ((List.range o.length).map fun i => .int (hi rs i)), .loc st1.length]) (.int 1) = some (.lst ((List.range o.length).map fun i => .int (hi rs i))) := rfl
    refine ⟨(List.range rs.length).map (hi rs), st1 ++ [.lst []], some (c, a, u, st1 ++ [.lst []]), ?_, okn_fn F (fun i hi' => ⟨lo_hi F hi', Int.le_refl _⟩) (fun i hi' => hi_up (by omega)), c, a, u, rfl, g1, g2, by omega⟩
    unfold F__law_steps body__law_steps
    rw [hrl, ← iF]
    simp! [ap_newL, ap_listN, ap_opS, ap_unS, ap_appS, ap_setLS, ap_setDS, ap_get2S, ap_dispN, ap_newD0, ap_dictPN, ap_sortDK, ap_unp, ap_mtS, ap_dpopS, stOf_some, born_some, poke_some, lc_loc, Nat.zero_le, drf_int, drf_str, drf_non, drf_bl, drf_tup, drf_lst, drf_dct, nl_int, nl_str, nl_bl, nl_non, nl_loc, dct_of, seq_l, seq_t, isLs_l, ap_par2, ap_inS, ap_revS, lsOf_l, ord, e1, hl, rg, rz, wp, lc, el, ix, gz, mul0 _ hz, fnl, List.map_cons, List.map_nil, nlF, small_lineE]
  · have ix : gIx (.lst [.lst ((List.range o.length).map fun i => .int (lo rs i)), .lst ((List.range o.length).map fun i => .int (hi rs i)), .loc st1.length]) (.int 2) = some (.loc st1.length) := rfl
    let I : Nat → List Sl → Dk → Prop := fun i ρ k => ∃ (ns : List Int) (here : Int) (s8 s9 : Sl) (st2 : List D), ρ = [.val .deck, .val (histD rows), .val (.tup (o.map nD)), .val (.int 2), .val (.lst ((List.range o.length).map fun i => .int (lo rs i))), .val (.lst ((List.range o.length).map fun i => .int (hi rs i))), .val (.loc st1.length), .val (.int here), s8, s9, .no, .no] ∧
      DkS st2 (n + 1 + i) k ∧ st2[st1.length]? = some (.lst (ns.map .int)) ∧ ns.length = i ∧ (∀ (j : Nat) (x : Int), ns[j]? = some x → lo rs j ≤ x ∧ x ≤ hi rs j) ∧ ns.Pairwise (· ≤ ·) ∧ (∀ x ∈ ns, x ≤ here) ∧ (i < rs.length → here ≤ hi rs i)
    have hI0 : I 0 [.val .deck, .val (histD rows), .val (.tup (o.map nD)), .val (.int 2), .val (.lst ((List.range o.length).map fun i => .int (lo rs i))), .val (.lst ((List.range o.length).map fun i => .int (hi rs i))), .val (.loc st1.length), .val (.int 0), .no, .no, .no, .no] (some (c, a, u, st1 ++ [.lst []])) :=
      ⟨[], 0, .no, .no, _, rfl, ⟨c, a, u, rfl, g1, g2, by omega⟩, at_new, rfl, by simp, List.Pairwise.nil, by simp, fun h => by have := lo_hi F h; have := lo_0 F h; omega⟩
    obtain ⟨ρ', k', f1, f2⟩ := for_inv (g := gPair (gSet 8) (gSet 9)) (body := L1__law_steps) I ((List.range o.length).map fun i => D.tup [.int (lo rs i), .int (hi rs i)]) 0 _ _ hI0 fun i d hd ρ k hI => by
      rw [Nat.zero_add] at hI ⊢
      obtain ⟨ns, here, s8, s9, st2, rfl, dk, hst, hlen, hbd, hpw, hle, hnx⟩ := hI
      have hi' : i < o.length := by
        have := (List.getElem?_eq_some_iff.mp hd).1
        simpa using this
      rw [List.getElem?_map, List.getElem?_range hi', Option.map_some, Option.some.injEq] at hd
      subst hd
      have hir : i < rs.length := by omega
      have q1 := hnx hir
      have q2 := lo_hi F hir
      have q3 := lo_0 F hir
      have q4 := hi_5 (rs := rs) (i := i)
      obtain ⟨v, k3, ed, v0, v1, d3⟩ := draw_ok dk (hi rs i - max here (lo rs i) + 1) ⟨by omega, by omega⟩ (by omega)
      obtain ⟨c3, a3, u3, rfl, x1, x2, x3⟩ := id d3
      have ap : mAppend (ns.map D.int) [.int (max here (lo rs i) + v)] = some (.non, ns.map D.int ++ [.int (max here (lo rs i) + v)]) := if_pos (by rw [List.length_map, sizeLine_eq]; omega)
      refine ⟨[.val .deck, .val (histD rows), .val (.tup (o.map nD)), .val (.int 2), .val (.lst ((List.range o.length).map fun i => .int (lo rs i))), .val (.lst ((List.range o.length).map fun i => .int (hi rs i))), .val (.loc st1.length), .val (.int here), .val (.int (lo rs i)), .val (.int (hi rs i)), .no, .no], [.val .deck, .val (histD rows), .val (.tup (o.map nD)), .val (.int 2), .val (.lst ((List.range o.length).map fun i => .int (lo rs i))), .val (.lst ((List.range o.length).map fun i => .int (hi rs i))), .val (.loc st1.length), .val (.int (max here (lo rs i) + v)), .val (.int (lo rs i)), .val (.int (hi rs i)), .no, .no], some (c3, a3, u3, st2.set st1.length (.lst (ns.map D.int ++ [.int (max here (lo rs i) + v)]))), rfl, ?_, ?_⟩
      · unfold L1__law_steps
        simp! [ap_newL, ap_listN, ap_opS, ap_unS, ap_appS, ap_setLS, ap_setDS, ap_get2S, ap_dispN, ap_newD0, ap_dictPN, ap_sortDK, ap_unp, ap_mtS, ap_dpopS, stOf_some, born_some, poke_some, lc_loc, Nat.zero_le, drf_int, drf_str, drf_non, drf_bl, drf_tup, drf_lst, drf_dct, nl_int, nl_str, nl_bl, nl_non, nl_loc, dct_of, seq_l, seq_t, isLs_l, ap_par2, ap_inS, ap_revS, lsOf_l, r_max', ed, lsAt_of hst, ap]
      · refine ⟨ns ++ [max here (lo rs i) + v], max here (lo rs i) + v, _, _, st2.set st1.length (.lst (ns.map D.int ++ [.int (max here (lo rs i) + v)])), rfl, ⟨c3, a3, u3, rfl, x1, x2, by omega⟩, ?_, by simp [hlen], fun j x hx => ?_, ?_, fun x hx => ?_, fun h => ?_⟩
        · rw [at_set hst, List.map_append]; rfl
        · by_cases hj : j < ns.length
          · rw [List.getElem?_append_left hj] at hx
            exact hbd j x hx
          · rw [List.getElem?_append_right (by omega)] at hx
            have hj0 : j - ns.length = 0 := by
              by_cases h0 : j - ns.length = 0
              · exact h0
              · rw [List.getElem?_eq_none_iff.mpr (by simp; omega)] at hx; cases hx
            rw [hj0] at hx
            have hx : max here (lo rs i) + v = x := by simpa using hx
            have : j = i := by omega
            subst this
            omega
        · rw [List.pairwise_append]
          refine ⟨hpw, by simp, fun x hx y hy => ?_⟩
          rw [List.mem_singleton] at hy
          have := hle x hx
          omega
        · rcases List.mem_append.mp hx with q | q
          · have := hle x q
            omega
          · rw [List.mem_singleton] at q
            omega
        · have := hi_up hir
          omega
    rw [Nat.zero_add, List.length_map, List.length_range] at f2
    obtain ⟨ns, here, s8, s9, st2, rfl, dk, hst, hlen, hbd, hpw, hle, hnx⟩ := f2
    obtain ⟨c3, a3, u3, rfl, x1, x2, x3⟩ := id dk
    refine ⟨ns, st2, some (c3, a3, u3, st2), ?_, okn_of F (by omega) hbd hpw, dk⟩
    unfold F__law_steps body__law_steps
    simp! [ap_newL, ap_listN, ap_opS, ap_unS, ap_appS, ap_setLS, ap_setDS, ap_get2S, ap_dispN, ap_newD0, ap_dictPN, ap_sortDK, ap_unp, ap_mtS, ap_dpopS, stOf_some, born_some, poke_some, lc_loc, Nat.zero_le, drf_int, drf_str, drf_non, drf_bl, drf_tup, drf_lst, drf_dct, nl_int, nl_str, nl_bl, nl_non, nl_loc, dct_of, seq_l, seq_t, isLs_l, ap_par2, ap_inS, ap_revS, lsOf_l, ord, e1, hl, rg, rz, wp, lc, el, ix, gz, mul1 _ hz, f1, List.map_cons, List.map_nil, drf_ls hst, nl_tints, small_lineE]
end
end W30
namespace W30
open PySem PySem.Spec L2
open WS hiding DkOk draw_ok
def Sp (s : Str) : Prop := s = "count" ∨ s = "set" ∨ s = "queue" ∨ s = "stack" ∨ s = "map"
/-- a state of a spec, not too great -/
inductive St : Nat → Str → D → Prop
  | count {m : Nat} {i : Int} : 0 ≤ i ∧ i ≤ m → St m "count" (.int i)
  | seq {m : Nat} {s : Str} {is : List Int} : s = "queue" ∨ s = "stack" → is.length ≤ m → (∀ i ∈ is, 0 ≤ i ∧ i ≤ 999) → St m s (.tup (is.map .int))
  | set {m : Nat} {is : List Int} : is.length ≤ m → is.Nodup → St m "set" (.tup (is.map .int))
  | map {m : Nat} {ps : List (Int × Int)} : ps.length ≤ m → (ps.map (·.1)).Nodup → (∀ p ∈ ps, 1 ≤ p.2 ∧ p.2 ≤ 999) → St m "map" (.tup (ps.map WS.pairD))
inductive Dd : Str → D → Prop
  | up : Dd "count" (.tup [.str "up"])
  | look : Dd "count" (.tup [.str "look"])
  | put {i : Int} : 0 ≤ i ∧ i ≤ 999 → Dd "queue" (.tup [.str "put", .int i])
  | take : Dd "queue" (.tup [.str "take"])
  | push {i : Int} : 0 ≤ i ∧ i ≤ 999 → Dd "stack" (.tup [.str "push", .int i])
  | pop : Dd "stack" (.tup [.str "pop"])
  | sadd {i : Int} : 0 ≤ i ∧ i ≤ 999 → Dd "set" (.tup [.str "add", .int i])
  | sdrop {i : Int} : 0 ≤ i ∧ i ≤ 999 → Dd "set" (.tup [.str "drop", .int i])
  | shas {i : Int} : 0 ≤ i ∧ i ≤ 999 → Dd "set" (.tup [.str "has", .int i])
  | madd {i v : Int} : 0 ≤ i ∧ i ≤ 999 → 1 ≤ v ∧ v ≤ 999 → Dd "map" (.tup [.str "add", .int i, .int v])
  | mdrop {i : Int} : 0 ≤ i ∧ i ≤ 999 → Dd "map" (.tup [.str "drop", .int i])
  | mget {i : Int} : 0 ≤ i ∧ i ≤ 999 → Dd "map" (.tup [.str "get", .int i])
theorem St.mono {m m' : Nat} {s : Str} {σ : D} (h : St m s σ) (l : m ≤ m') : St m' s σ := by
  cases h with
  | count h => exact .count (by omega)
  | seq a b c => exact .seq a (by omega) c
  | set a b => exact .set (by omega) b
  | map a b c => exact .map (by omega) b c
/-- ways: what is told, the state behind -/
inductive Wys (m : Nat) (s : Str) : List D → Prop
  | one {t : Int} {σ : D} : -1000000 ≤ t ∧ t ≤ 1000000 → St m s σ → Wys m s [.tup [.int t, σ]]
  | two {t u : Int} {σ τ : D} : -1000000 ≤ t ∧ t ≤ 1000000 → St m s σ → -1000000 ≤ u ∧ u ≤ 1000000 → St m s τ → Wys m s [.tup [.int t, σ], .tup [.int u, τ]]
theorem nq : ¬ (("queue" : Str) = "count") ∧ ¬ (("stack" : Str) = "count") ∧ ¬ (("set" : Str) = "count") ∧ ¬ (("map" : Str) = "count") ∧ ¬ (("set" : Str) = "map") ∧ ¬ (("queue" : Str) = "map") ∧ ¬ (("stack" : Str) = "map") := by decide
theorem first_ok {s : Str} (hs : Sp s) (k : Dk) : ∃ σ, F__law_first [.str s] k = some (σ, k) ∧ St 0 s σ := by
  have n := nq
  unfold F__law_first body__law_first
  have i0 : gIx (.lst [.tup [], .int 0]) (.int 0) = some (.tup []) := rfl
  have i1 : gIx (.lst [.tup [], .int 0]) (.int 1) = some (.int 0) := rfl
  rcases hs with h | h | h | h | h <;> subst h
  · exact ⟨_, by simp! [r_eqS, i1], .count (i := 0) (by omega)⟩
  · exact ⟨_, by simp! [r_eqS, n.2.2.1, i0, List.map_nil], .set (is := []) (by simp) (by simp)⟩
  · exact ⟨_, by simp! [r_eqS, n.1, i0, List.map_nil], .seq (is := []) (.inl rfl) (by simp) (by simp)⟩
  · exact ⟨_, by simp! [r_eqS, n.2.1, i0, List.map_nil], .seq (is := []) (.inr rfl) (by simp) (by simp)⟩
  · exact ⟨_, by simp! [r_eqS, n.2.2.2.1, i0, List.map_nil], .map (ps := []) (by simp) (by simp) (by simp)⟩
theorem ix0 (x : D) (r : List D) : gIx (.tup (x :: r)) (.int 0) = some x := WS.ix_tup (xs := x :: r) (n := 0)
theorem ix1 (x y : D) (r : List D) : gIx (.tup (x :: y :: r)) (.int 1) = some y := WS.ix_tup (xs := x :: y :: r) (n := 1)
theorem mul2 {x : D} : gMulB (.tup [x]) (.int 2) = some (.tup [x, x]) := by rw [r_mulT ⟨by omega, by omega, by simp⟩]; rfl
theorem mul1 {x : D} : gMulB (.tup [x]) (.int 1) = some (.tup [x]) := by rw [r_mulT ⟨by omega, by omega, by simp⟩]; rfl
theorem mul0 {x : D} : gMulB (.tup [x]) (.int 0) = some (.tup []) := by rw [r_mulT ⟨by omega, by omega, by simp⟩]; rfl
theorem tk_take : gIn (.str "take") (.tup [.str "take", .str "pop"]) = some (.bl true) := by kernel_rfl!
theorem tk_pop : gIn (.str "pop") (.tup [.str "take", .str "pop"]) = some (.bl true) := by kernel_rfl!
theorem tk_put : gIn (.str "put") (.tup [.str "take", .str "pop"]) = some (.bl false) := by kernel_rfl!
theorem tk_push : gIn (.str "push") (.tup [.str "take", .str "pop"]) = some (.bl false) := by kernel_rfl!
theorem tk_add : gIn (.str "add") (.tup [.str "take", .str "pop"]) = some (.bl false) := by kernel_rfl!
theorem tk_drop : gIn (.str "drop") (.tup [.str "take", .str "pop"]) = some (.bl false) := by kernel_rfl!
theorem tk_has : gIn (.str "has") (.tup [.str "take", .str "pop"]) = some (.bl false) := by kernel_rfl!
theorem tk_get : gIn (.str "get") (.tup [.str "take", .str "pop"]) = some (.bl false) := by kernel_rfl!
theorem pp_put : gIn (.str "put") (.tup [.str "put", .str "push"]) = some (.bl true) := by kernel_rfl!
theorem pp_push : gIn (.str "push") (.tup [.str "put", .str "push"]) = some (.bl true) := by kernel_rfl!
theorem pp_add : gIn (.str "add") (.tup [.str "put", .str "push"]) = some (.bl false) := by kernel_rfl!
theorem pp_drop : gIn (.str "drop") (.tup [.str "put", .str "push"]) = some (.bl false) := by kernel_rfl!
theorem pp_has : gIn (.str "has") (.tup [.str "put", .str "push"]) = some (.bl false) := by kernel_rfl!
theorem pp_get : gIn (.str "get") (.tup [.str "put", .str "push"]) = some (.bl false) := by kernel_rfl!
theorem hg_has : gIn (.str "has") (.tup [.str "has", .str "get"]) = some (.bl true) := by kernel_rfl!
theorem hg_get : gIn (.str "get") (.tup [.str "has", .str "get"]) = some (.bl true) := by kernel_rfl!
theorem hg_add : gIn (.str "add") (.tup [.str "has", .str "get"]) = some (.bl false) := by kernel_rfl!
theorem hg_drop : gIn (.str "drop") (.tup [.str "has", .str "get"]) = some (.bl false) := by kernel_rfl!
theorem ndr : ¬ (("add" : Str) = "drop") := by decide
def kL (js : List (Int × Int)) : List Key := js.map fun p => .inl p.1
def vL (js : List (Int × Int)) : List D := js.map fun p => .int p.2
def lkJ : List (Int × Int) → Int → Option Int
  | [], _ => none
  | p :: r, x => if p.1 = x then some p.2 else lkJ r x
theorem lk_js (x : Int) : ∀ js, lkD (kL js) (vL js) (.inl x) = (lkJ js x).map .int
  | [] => rfl
  | p :: r => by
    show (if (Sum.inl p.1 : Key) = .inl x then some (D.int p.2) else lkD (kL r) (vL r) (.inl x)) = _
    unfold lkJ
    by_cases h : p.1 = x
    · rw [if_pos (by rw [h]), if_pos h]; rfl
    · rw [if_neg (fun e => h (by injection e)), if_neg h, lk_js x r]
theorem lkJ_mem {x v : Int} : ∀ {js}, lkJ js x = some v → (x, v) ∈ js
  | [], h => by cases h
  | p :: r, h => by
    unfold lkJ at h
    by_cases c : p.1 = x
    · rw [if_pos c] at h; cases h; subst c; exact List.mem_cons_self
    · rw [if_neg c] at h; exact List.mem_cons_of_mem _ (lkJ_mem h)
theorem lkJ_some {x v : Int} : ∀ {js : List (Int × Int)}, (js.map (·.1)).Nodup → (x, v) ∈ js → lkJ js x = some v
  | [], _, h => by cases h
  | p :: r, hn, h => by
    rw [List.map_cons, List.nodup_cons] at hn
    unfold lkJ
    rcases List.mem_cons.mp h with e | e
    · subst e; rw [if_pos rfl]
    · rw [if_neg (fun z : p.1 = x => hn.1 (List.mem_map.mpr ⟨_, e, z.symm⟩)), lkJ_some hn.2 e]
theorem kL_nodup {js : List (Int × Int)} (h : (js.map (·.1)).Nodup) : (kL js).Nodup := by
  have e : kL js = (js.map (·.1)).map Sum.inl := by unfold kL; rw [List.map_map]; rfl
  rw [e]
  exact List.pairwise_map.mpr (h.imp fun hne z => hne (by injection z))
theorem pairs_of (js : List (Int × Int)) : pairsD (js.map WS.pairD) = some (kL js, vL js) := by
  induction js with
  | nil => rfl
  | cons p r ih =>
    show pairsD (.tup [.int p.1, .int p.2] :: r.map WS.pairD) = _
    unfold pairsD
    rw [ih]; rfl
theorem getd {js : List (Int × Int)} {x : Int} : (lkD (kL js) (vL js) (.inl x)).getD (.int 0) = .int ((lkJ js x).getD 0) := by
  rw [lk_js]
  cases lkJ js x <;> rfl
/-- what is there, made a dict -/
theorem there_ok {s : Str} {c : Bool} (hc : decide (s = "map") = c) {js : List (Int × Int)} {σ : List D} (hσ : σ.map (fun d => if c = true then d else .tup [d, .int 1]) = js.map WS.pairD) (hl : σ.length ≤ 1000) {d w : D} {x : Int} {k : Dk} :
    eCompGo [7] (gSet 7) (eC (.bl true)) (eIf (eOp gEqE (eVar 0) (eC (.str "map"))) (eVar 7) (eApp gTupD (aCons (eVar 7) (aCons (eC (.int 1)) aNil)))) σ [.val (.str s), .val (.tup σ), .val d, .val w, .val (.int x), .no, .no, .no] k = some (js.map WS.pairD, [.val (.str s), .val (.tup σ), .val d, .val w, .val (.int x), .no, .no, .no], k) := by
  rw [← hσ]
  refine comp_map _ _ fun y _ => ⟨_, _, [.val (.str s), .val (.tup σ), .val d, .val w, .val (.int x), .no, .no, .val y], rfl, rfl, ?_, rfl⟩
  cases c with
  | true =>
    have h : s = "map" := of_decide_eq_true hc
    simp! [r_eqS, h]
  | false =>
    have h : ¬ s = "map" := of_decide_eq_false hc
    simp! [r_eqS, h]
theorem ne_IT {i : Int} {xs : List Int} : gNeE (.int i) (.tup (xs.map .int)) = some (.bl true) := by
  show (eqD (.int i) (.tup (xs.map .int))).map (fun b => D.bl (!b)) = _
  have toPs_ints : ∀ ns : List Int, toPs (ns.map .int) = some (ns.map PyData.int) := fun ns => by
    induction ns with
    | nil => rfl
    | cons n r ih =>
      unfold toPs
      simp only [List.map_cons]
      show ((toP (.int n)).bind fun p => (toPs (r.map .int)).map fun q => p :: q) = _
      rw [ih]; rfl
  have lay : ∀ ns : List Int, PyData.canLayAll0 (ns.map PyData.int) = true ∧ PyData.depthAll (ns.map PyData.int) = 0 := fun ns => by
    induction ns with
    | nil => exact ⟨rfl, rfl⟩
    | cons n r ih => exact ⟨by show (true && _) = true; rw [ih.1]; rfl, by show max 0 _ = 0; rw [ih.2]; rfl⟩
  have shp : SeqAt.shaped (.tuple (xs.map PyData.int)) = true := by
    obtain ⟨h1, h2⟩ := lay xs
    show (PyData.canLayAll0 (xs.map PyData.int) && decide (PyData.depthAll (xs.map PyData.int) + 1 ≤ 64)) = true
    rw [h1, h2]; rfl
  have e : toP (.tup (xs.map .int)) = some (.tuple (xs.map PyData.int)) := by
    show (toPs _).map _ = _
    rw [toPs_ints]; rfl
  unfold eqD
  rw [e]
  show (((some (PyData.int i)).bind fun p => (some (PyData.tuple (xs.map PyData.int))).bind fun q => if SeqAt.shaped p = true ∧ SeqAt.shaped q = true then some (PyData.eqv p q) else none).map fun b => D.bl (!b)) = _
  rw [Option.bind_some, Option.bind_some, if_pos ⟨rfl, shp⟩]
  rfl
theorem ne_I2 {i a b : Int} : gNeE (.int i) (.tup [.int a, .int b]) = some (.bl true) := ne_IT (xs := [a, b])
theorem ne_TI {p : Int × Int} {i : Int} : gNeE (WS.pairD p) (.int i) = some (.bl true) := rfl
theorem ne_TT {p : Int × Int} {a b : Int} : gNeE (WS.pairD p) (.tup [.int a, .int b]) = some (.bl (!decide (p = (a, b)))) := by
  obtain ⟨x, y⟩ := p
  show (eqD (.tup [.int x, .int y]) (.tup [.int a, .int b])).map (fun b => D.bl (!b)) = _
  have e : eqD (.tup [.int x, .int y]) (.tup [.int a, .int b]) = some (x == a && (y == b && true)) := rfl
  rw [e]
  show some (D.bl (!(x == a && (y == b && true)))) = _
  congr 3
  rw [Bool.eq_iff_iff]
  simp [Prod.mk.injEq]
theorem sort_p {ps : List (Int × Int)} (h : ps ≠ []) : gSortedE [.tup (ps.map WS.pairD)] = some (.lst ((psort ps).map WS.pairD)) := by
  have po : ∀ ps : List (Int × Int), pairsOfD (ps.map WS.pairD) = some ps := fun ps => by
    induction ps with
    | nil => rfl
    | cons p r ih =>
      show (pairOf (WS.pairD p)).bind _ = _
      show (pairsOfD (r.map WS.pairD)).map (fun q => p :: q) = _
      rw [ih]; rfl
  have no : intsOf (ps.map WS.pairD) = none := by
    cases ps with
    | nil => exact absurd rfl h
    | cons p r => rfl
  show sortD (ps.map WS.pairD) = _
  unfold sortD
  rw [no, po]; rfl
theorem told_in {js : List (Int × Int)} {x : Int} (h : ∀ p ∈ js, 1 ≤ p.2 ∧ p.2 ≤ 999) : 0 ≤ (lkJ js x).getD 0 ∧ (lkJ js x).getD 0 ≤ 999 ∧ (¬ 0 < (lkJ js x).getD 0 → x ∉ js.map (·.1) ∨ ¬ (js.map (·.1)).Nodup) := by
  cases e : lkJ js x with
  | none =>
    refine ⟨by simp, by simp, fun _ => ?_⟩
    by_cases hn : (js.map (·.1)).Nodup
    · left
      intro hm
      obtain ⟨p, hp, rfl⟩ := List.mem_map.mp hm
      rw [lkJ_some hn (show (p.1, p.2) ∈ js from hp)] at e
      cases e
    · exact .inr hn
  | some v =>
    have := h _ (lkJ_mem e)
    simp only [Option.getD_some]
    exact ⟨by omega, by omega, fun g => absurd (show 0 < v by omega) g⟩
def oneJ (is : List Int) : List (Int × Int) := is.map fun i => (i, 1)
theorem oneJ_fst {is : List Int} : (oneJ is).map (·.1) = is := by unfold oneJ; rw [List.map_map]; exact List.map_id _
theorem set_pairs {is : List Int} : (is.map D.int).map (fun d => if false = true then d else .tup [d, .int 1]) = (oneJ is).map WS.pairD := by
  unfold oneJ
  rw [List.map_map, List.map_map]; rfl
theorem map_pairs {ps : List (Int × Int)} : (ps.map WS.pairD).map (fun d => if true = true then d else .tup [d, .int 1]) = ps.map WS.pairD := by
  simp
end W30
namespace W30
open PySem PySem.Spec L2
open WS hiding DkOk draw_ok
section
variable {m : Nat} (hm : m ≤ 500) {c : List Int} {a u : Int} {st : List D}
include hm
theorem ways_count {i : Int} (h : 0 ≤ i ∧ i ≤ m) (up : Bool) : F__law_ways [.str "count", .int i, .tup [.str (if up = true then "up" else "look")]] (some (c, a, u, st)) = some (.lst [.tup [.int (i + if up = true then 1 else 0), .int (i + if up = true then 1 else 0)]], some (c, a, u, st)) := by
  unfold F__law_ways body__law_ways
  have n1 : ¬ (("look" : Str) = "up") := by decide
  cases up with
  | true => simp! [ap_newL, ap_listN, ap_opS, ap_unS, ap_appS, ap_setLS, ap_setDS, ap_get2S, ap_dispN, ap_newD0, ap_dictPN, ap_sortDK, ap_unp, ap_mtS, ap_dpopS, stOf_some, born_some, poke_some, lc_loc, Nat.zero_le, drf_int, drf_str, drf_non, drf_bl, drf_tup, drf_lst, drf_dct, nl_int, nl_str, nl_bl, nl_non, nl_loc, dct_of, seq_l, seq_t, isLs_l, ap_par2, ap_inS, ap_revS, lsOf_l, ix0, r_eqS, mul2]
  | false => simp! [ap_newL, ap_listN, ap_opS, ap_unS, ap_appS, ap_setLS, ap_setDS, ap_get2S, ap_dispN, ap_newD0, ap_dictPN, ap_sortDK, ap_unp, ap_mtS, ap_dpopS, stOf_some, born_some, poke_some, lc_loc, Nat.zero_le, drf_int, drf_str, drf_non, drf_bl, drf_tup, drf_lst, drf_dct, nl_int, nl_str, nl_bl, nl_non, nl_loc, dct_of, seq_l, seq_t, isLs_l, ap_par2, ap_inS, ap_revS, lsOf_l, ix0, r_eqS, n1, mul2, Int.add_zero]
theorem ways_take {s w : Str} (hs : s = "queue" ∧ w = "take" ∨ s = "stack" ∧ w = "pop") {is : List Int} (hl : is.length ≤ m) (hb : ∀ i ∈ is, 0 ≤ i ∧ i ≤ 999) : ∃ ws, F__law_ways [.str s, .tup (is.map .int), .tup [.str w]] (some (c, a, u, st)) = some (.lst ws, some (c, a, u, st)) ∧ Wys (m + 1) s ws := by
  have n := nq
  have hs' : s = "queue" ∨ s = "stack" := hs.imp And.left And.left
  cases is with
  | nil =>
    refine ⟨[.tup [.int 0, .tup []]], ?_, .one (by omega) (.seq (is := []) hs' (by simp) (by simp))⟩
    unfold F__law_ways body__law_ways
    rcases hs with ⟨rfl, rfl⟩ | ⟨rfl, rfl⟩
    · simp! [ap_newL, ap_listN, ap_opS, ap_unS, ap_appS, ap_setLS, ap_setDS, ap_get2S, ap_dispN, ap_newD0, ap_dictPN, ap_sortDK, ap_unp, ap_mtS, ap_dpopS, stOf_some, born_some, poke_some, lc_loc, Nat.zero_le, drf_int, drf_str, drf_non, drf_bl, drf_tup, drf_lst, drf_dct, nl_int, nl_str, nl_bl, nl_non, nl_loc, dct_of, seq_l, seq_t, isLs_l, ap_par2, ap_inS, ap_revS, lsOf_l, ix0, r_eqS, n.1, tk_take, List.map_nil, List.isEmpty_nil]
    · simp! [ap_newL, ap_listN, ap_opS, ap_unS, ap_appS, ap_setLS, ap_setDS, ap_get2S, ap_dispN, ap_newD0, ap_dictPN, ap_sortDK, ap_unp, ap_mtS, ap_dpopS, stOf_some, born_some, poke_some, lc_loc, Nat.zero_le, drf_int, drf_str, drf_non, drf_bl, drf_tup, drf_lst, drf_dct, nl_int, nl_str, nl_bl, nl_non, nl_loc, dct_of, seq_l, seq_t, isLs_l, ap_par2, ap_inS, ap_revS, lsOf_l, ix0, r_eqS, n.2.1, tk_pop, List.map_nil, List.isEmpty_nil]
  | cons i r =>
    have := hb i List.mem_cons_self
    rw [List.length_cons] at hl
    refine ⟨[.tup [.int i, .tup (r.map .int)]], ?_, .one (by omega) (.seq hs' (by omega) fun j hj => hb j (List.mem_cons_of_mem _ hj))⟩
    unfold F__law_ways body__law_ways
    rcases hs with ⟨rfl, rfl⟩ | ⟨rfl, rfl⟩
    · simp! [ap_newL, ap_listN, ap_opS, ap_unS, ap_appS, ap_setLS, ap_setDS, ap_get2S, ap_dispN, ap_newD0, ap_dictPN, ap_sortDK, ap_unp, ap_mtS, ap_dpopS, stOf_some, born_some, poke_some, lc_loc, Nat.zero_le, drf_int, drf_str, drf_non, drf_bl, drf_tup, drf_lst, drf_dct, nl_int, nl_str, nl_bl, nl_non, nl_loc, dct_of, seq_l, seq_t, isLs_l, ap_par2, ap_inS, ap_revS, lsOf_l, ix0, r_eqS, n.1, tk_take, List.map_cons, List.isEmpty_cons, List.drop_succ_cons, List.drop_zero]
    · simp! [ap_newL, ap_listN, ap_opS, ap_unS, ap_appS, ap_setLS, ap_setDS, ap_get2S, ap_dispN, ap_newD0, ap_dictPN, ap_sortDK, ap_unp, ap_mtS, ap_dpopS, stOf_some, born_some, poke_some, lc_loc, Nat.zero_le, drf_int, drf_str, drf_non, drf_bl, drf_tup, drf_lst, drf_dct, nl_int, nl_str, nl_bl, nl_non, nl_loc, dct_of, seq_l, seq_t, isLs_l, ap_par2, ap_inS, ap_revS, lsOf_l, ix0, r_eqS, n.2.1, tk_pop, List.map_cons, List.isEmpty_cons, List.drop_succ_cons, List.drop_zero]
theorem ways_put {s w : Str} (hs : s = "queue" ∧ w = "put" ∨ s = "stack" ∧ w = "push") {is : List Int} {x : Int} (hx : 0 ≤ x ∧ x ≤ 999) (hl : is.length ≤ m) (hb : ∀ i ∈ is, 0 ≤ i ∧ i ≤ 999) : ∃ ws, F__law_ways [.str s, .tup (is.map .int), .tup [.str w, .int x]] (some (c, a, u, st)) = some (.lst ws, some (c, a, u, st)) ∧ Wys (m + 1) s ws := by
  have n := nq
  have hs' : s = "queue" ∨ s = "stack" := hs.imp And.left And.left
  have g1 : gAddB (.tup (is.map .int)) (.tup [.int x]) = some (.tup ((is ++ [x]).map .int)) := by rw [r_addT (by simp; omega), List.map_append]; rfl
  have g2 : gAddB (.tup [.int x]) (.tup (is.map .int)) = some (.tup ((x :: is).map .int)) := by rw [r_addT (by simp; omega)]; rfl
  have n1 : ¬ (("put" : Str) = "push") := by decide
  have old : St (m + 1) s (.tup (is.map .int)) := .seq hs' (by omega) hb
  have new1 : St (m + 1) s (.tup ((is ++ [x]).map .int)) := .seq hs' (by simp; omega) fun i hi => by
    rcases List.mem_append.mp hi with q | q
    · exact hb i q
    · rw [List.mem_singleton] at q; rw [q]; exact hx
  have new2 : St (m + 1) s (.tup ((x :: is).map .int)) := .seq hs' (by simp; omega) fun i hi => by
    rcases List.mem_cons.mp hi with q | q
    · rw [q]; exact hx
    · exact hb i q
  unfold F__law_ways body__law_ways
  rcases hs with ⟨rfl, rfl⟩ | ⟨rfl, rfl⟩
  · refine ⟨[.tup [.int 1, .tup ((is ++ [x]).map .int)], .tup [.int 2, .tup (is.map .int)]], ?_, .two (by omega) new1 (by omega) old⟩
    have i0 : gIx (.lst [.tup ((is ++ [x]).map .int), .tup ((x :: is).map .int)]) (.int 0) = some (.tup ((is ++ [x]).map .int)) := rfl
    simp! [ap_newL, ap_listN, ap_opS, ap_unS, ap_appS, ap_setLS, ap_setDS, ap_get2S, ap_dispN, ap_newD0, ap_dictPN, ap_sortDK, ap_unp, ap_mtS, ap_dpopS, stOf_some, born_some, poke_some, lc_loc, Nat.zero_le, drf_int, drf_str, drf_non, drf_bl, drf_tup, drf_lst, drf_dct, nl_int, nl_str, nl_bl, nl_non, nl_loc, dct_of, seq_l, seq_t, isLs_l, ap_par2, ap_inS, ap_revS, lsOf_l, ix0, r_eqS, n.1, tk_put, pp_put, List.drop_succ_cons, List.drop_zero, g1, g2, n1, i0]
  · refine ⟨[.tup [.int 1, .tup ((x :: is).map .int)], .tup [.int 2, .tup (is.map .int)]], ?_, .two (by omega) new2 (by omega) old⟩
    have i1 : gIx (.lst [.tup ((is ++ [x]).map .int), .tup ((x :: is).map .int)]) (.int 1) = some (.tup ((x :: is).map .int)) := rfl
    simp! [ap_newL, ap_listN, ap_opS, ap_unS, ap_appS, ap_setLS, ap_setDS, ap_get2S, ap_dispN, ap_newD0, ap_dictPN, ap_sortDK, ap_unp, ap_mtS, ap_dpopS, stOf_some, born_some, poke_some, lc_loc, Nat.zero_le, drf_int, drf_str, drf_non, drf_bl, drf_tup, drf_lst, drf_dct, nl_int, nl_str, nl_bl, nl_non, nl_loc, dct_of, seq_l, seq_t, isLs_l, ap_par2, ap_inS, ap_revS, lsOf_l, ix0, r_eqS, n.2.1, tk_push, pp_push, List.drop_succ_cons, List.drop_zero, g1, g2, i1]
/-- a set's deeds -/
theorem ways_set {w : Str} (hw : w = "add" ∨ w = "drop" ∨ w = "has") {is : List Int} {x : Int} (hl : is.length ≤ m) (hn : is.Nodup) : ∃ ws ex, F__law_ways [.str "set", .tup (is.map .int), .tup [.str w, .int x]] (some (c, a, u, st)) = some (.lst ws, some (c, a, u, st ++ ex)) ∧ Wys (m + 1) "set" ws := by
  have n := nq
  have hb : ∀ p ∈ oneJ is, 1 ≤ p.2 ∧ p.2 ≤ 999 := fun p hp => by
    obtain ⟨i, _, rfl⟩ := List.mem_map.mp hp
    exact ⟨Int.le_refl _, by omega⟩
  obtain ⟨t0, t9, tn⟩ := told_in (x := x) hb
  rw [oneJ_fst] at tn
  have old : St (m + 1) "set" (.tup (is.map .int)) := .set (by omega) hn
  have hlm : (is.map D.int).length ≤ 1000 := by rw [List.length_map]; omega
  rcases hw with rfl | rfl | rfl
  · -- add
    have th := there_ok (s := "set") (c := false) (by decide) (set_pairs (is := is)) hlm (d := .tup [.str "add", .int x]) (w := .str "add") (x := x) (k := some (c, a, u, st))
    have nd := kL_nodup (js := oneJ is) (by rw [oneJ_fst]; exact hn)
    have sz0 : ((is.map D.int).length < sizeLine) = True := eq_true (by rw [List.length_map, sizeLine_eq]; omega)
    have wz : wipeS [Sl.val (.str "set"), .val (.tup (is.map .int)), .val (.tup [.str "add", .int x]), .val (.str "add"), .val (.int x), .no, .no, .no] [7] = [.val (.str "set"), .val (.tup (is.map .int)), .val (.tup [.str "add", .int x]), .val (.str "add"), .val (.int x), .no, .no, .no] := rfl
    by_cases ht : 0 < (lkJ (oneJ is) x).getD 0
    · refine ⟨[.tup [.int 0, .tup (is.map .int)], .tup [.int 2, .tup (is.map .int)]], [.dct (kL (oneJ is)) (vL (oneJ is))], ?_, .two (by omega) old (by omega) old⟩
      unfold F__law_ways body__law_ways
      simp! [ap_newL, ap_listN, ap_opS, ap_unS, ap_appS, ap_setLS, ap_setDS, ap_get2S, ap_dispN, ap_newD0, ap_dictPN, ap_sortDK, ap_unp, ap_mtS, ap_dpopS, stOf_some, born_some, poke_some, lc_loc, Nat.zero_le, drf_int, drf_str, drf_non, drf_bl, drf_tup, drf_lst, drf_dct, nl_int, nl_str, nl_bl, nl_non, nl_loc, dct_of, seq_l, seq_t, isLs_l, ap_par2, ap_inS, ap_revS, lsOf_l, ix0, ix1, r_eqS, n.2.2.1, tk_add, pp_add, sz0, wz, th, pairs_of, nd, drf_dc at_new, kd_i, getd, hg_add, ndr, ht]
    · have hx : x ∉ is := (tn ht).resolve_right fun z => z hn
      have g1 : gAddB (.tup (is.map .int)) (.tup [.int x]) = some (.tup ((is ++ [x]).map .int)) := by rw [r_addT (by simp; omega), List.map_append]; rfl
      have i0 : gIx (.lst [.int x, .tup [.int x]]) (.int 0) = some (.int x) := rfl
      refine ⟨[.tup [.int 1, .tup ((isort (is ++ [x])).map .int)], .tup [.int 2, .tup (is.map .int)]], [.dct (kL (oneJ is)) (vL (oneJ is))], ?_, .two (by omega) (.set (by rw [(isort_perm _).length_eq]; simp; omega) ((isort_perm _).nodup_iff.mpr ?_)) (by omega) old⟩
      · unfold F__law_ways body__law_ways
        simp! [ap_newL, ap_listN, ap_opS, ap_unS, ap_appS, ap_setLS, ap_setDS, ap_get2S, ap_dispN, ap_newD0, ap_dictPN, ap_sortDK, ap_unp, ap_mtS, ap_dpopS, stOf_some, born_some, poke_some, lc_loc, Nat.zero_le, drf_int, drf_str, drf_non, drf_bl, drf_tup, drf_lst, drf_dct, nl_int, nl_str, nl_bl, nl_non, nl_loc, dct_of, seq_l, seq_t, isLs_l, ap_par2, ap_inS, ap_revS, lsOf_l, ix0, ix1, r_eqS, n.2.2.1, n.2.2.2.2.1, tk_add, pp_add, sz0, wz, th, pairs_of, nd, drf_dc at_new, kd_i, getd, hg_add, ndr, ht, List.drop_succ_cons, List.drop_zero, i0, g1, sortD_ints]
      · rw [List.nodup_append]
        refine ⟨hn, by simp, fun i hi j hj => ?_⟩
        rw [List.mem_singleton] at hj
        subst hj
        exact fun e => hx (e ▸ hi)
  · -- drop
    have th := there_ok (s := "set") (c := false) (by decide) (set_pairs (is := is)) hlm (d := .tup [.str "drop", .int x]) (w := .str "drop") (x := x) (k := some (c, a, u, st))
    have nd := kL_nodup (js := oneJ is) (by rw [oneJ_fst]; exact hn)
    have sz0 : ((is.map D.int).length < sizeLine) = True := eq_true (by rw [List.length_map, sizeLine_eq]; omega)
    have wz : wipeS [Sl.val (.str "set"), .val (.tup (is.map .int)), .val (.tup [.str "drop", .int x]), .val (.str "drop"), .val (.int x), .no, .no, .no] [7] = [.val (.str "set"), .val (.tup (is.map .int)), .val (.tup [.str "drop", .int x]), .val (.str "drop"), .val (.int x), .no, .no, .no] := rfl
    have hc : ∀ (s5 : Sl) (k : Dk) (t : Int), eCompGo [7] (gSet 7) (eAnd (eOp gNeE (eVar 7) (eVar 4)) (eOp gNeE (eVar 7) (eApp gTupD (aCons (eVar 4) (aCons (eVar 6) aNil))))) (eVar 7) (is.map .int) [.val (.str "set"), .val (.tup (is.map .int)), .val (.tup [.str "drop", .int x]), .val (.str "drop"), .val (.int x), s5, .val (.int t), .no] k = some ((is.filter fun y => !decide (y = x)).map .int, [.val (.str "set"), .val (.tup (is.map .int)), .val (.tup [.str "drop", .int x]), .val (.str "drop"), .val (.int x), s5, .val (.int t), .no], k) := fun s5 k t => by
      have := comp_pure (vs := [7]) (g := gSet 7) (tt := eAnd (eOp gNeE (eVar 7) (eVar 4)) (eOp gNeE (eVar 7) (eApp gTupD (aCons (eVar 4) (aCons (eVar 6) aNil))))) (elt := eVar 7) (ρ := [.val (.str "set"), .val (.tup (is.map .int)), .val (.tup [.str "drop", .int x]), .val (.str "drop"), .val (.int x), s5, .val (.int t), .no]) (k := k) (fun d => match d with
          | .int y => !decide (y = x)
          | _ => false) id (is.map .int) fun d hd => by
        obtain ⟨y, hy, rfl⟩ := List.mem_map.mp hd
        refine ⟨_, [.val (.str "set"), .val (.tup (is.map .int)), .val (.tup [.str "drop", .int x]), .val (.str "drop"), .val (.int x), s5, .val (.int t), .val (.int y)], rfl, ?_, fun _ => ⟨_, rfl, rfl⟩, fun _ => rfl⟩
        by_cases hyx : y = x
        · simp! [ap_newL, ap_listN, ap_opS, ap_unS, ap_appS, ap_setLS, ap_setDS, ap_get2S, ap_dispN, ap_newD0, ap_dictPN, ap_sortDK, ap_unp, ap_mtS, ap_dpopS, stOf_some, born_some, poke_some, lc_loc, Nat.zero_le, drf_int, drf_str, drf_non, drf_bl, drf_tup, drf_lst, drf_dct, nl_int, nl_str, nl_bl, nl_non, nl_loc, dct_of, seq_l, seq_t, isLs_l, ap_par2, ap_inS, ap_revS, lsOf_l, hyx]
        · simp! [ap_newL, ap_listN, ap_opS, ap_unS, ap_appS, ap_setLS, ap_setDS, ap_get2S, ap_dispN, ap_newD0, ap_dictPN, ap_sortDK, ap_unp, ap_mtS, ap_dpopS, stOf_some, born_some, poke_some, lc_loc, Nat.zero_le, drf_int, drf_str, drf_non, drf_bl, drf_tup, drf_lst, drf_dct, nl_int, nl_str, nl_bl, nl_non, nl_loc, dct_of, seq_l, seq_t, isLs_l, ap_par2, ap_inS, ap_revS, lsOf_l, hyx, ne_I2]
      rw [this, List.map_id, List.filter_map]
      rfl
    have sz : ((is.map D.int).length < sizeLine) = True := eq_true (by rw [List.length_map, sizeLine_eq]; omega)
    have w0 : ∀ (s5 : Sl) (t : Int), wipeS [Sl.val (.str "set"), .val (.tup (is.map .int)), .val (.tup [.str "drop", .int x]), .val (.str "drop"), .val (.int x), s5, .val (.int t), .no] [7] = [.val (.str "set"), .val (.tup (is.map .int)), .val (.tup [.str "drop", .int x]), .val (.str "drop"), .val (.int x), s5, .val (.int t), .no] := fun _ _ => rfl
    have := List.length_filter_le (fun y => !decide (y = x)) is
    refine ⟨[.tup [.int ((lkJ (oneJ is) x).getD 0), .tup ((is.filter fun y => !decide (y = x)).map .int)]], [.dct (kL (oneJ is)) (vL (oneJ is))], ?_, .one (by omega) (.set (by omega) (hn.filter _))⟩
    unfold F__law_ways body__law_ways
    simp! [ap_newL, ap_listN, ap_opS, ap_unS, ap_appS, ap_setLS, ap_setDS, ap_get2S, ap_dispN, ap_newD0, ap_dictPN, ap_sortDK, ap_unp, ap_mtS, ap_dpopS, stOf_some, born_some, poke_some, lc_loc, Nat.zero_le, drf_int, drf_str, drf_non, drf_bl, drf_tup, drf_lst, drf_dct, nl_int, nl_str, nl_bl, nl_non, nl_loc, dct_of, seq_l, seq_t, isLs_l, ap_par2, ap_inS, ap_revS, lsOf_l, ix0, ix1, r_eqS, n.2.2.1, tk_drop, pp_drop, sz0, wz, th, pairs_of, nd, drf_dc at_new, kd_i, getd, hg_drop, sz, w0, hc]
  · -- has
    have th := there_ok (s := "set") (c := false) (by decide) (set_pairs (is := is)) hlm (d := .tup [.str "has", .int x]) (w := .str "has") (x := x) (k := some (c, a, u, st))
    have nd := kL_nodup (js := oneJ is) (by rw [oneJ_fst]; exact hn)
    have sz0 : ((is.map D.int).length < sizeLine) = True := eq_true (by rw [List.length_map, sizeLine_eq]; omega)
    have wz : wipeS [Sl.val (.str "set"), .val (.tup (is.map .int)), .val (.tup [.str "has", .int x]), .val (.str "has"), .val (.int x), .no, .no, .no] [7] = [.val (.str "set"), .val (.tup (is.map .int)), .val (.tup [.str "has", .int x]), .val (.str "has"), .val (.int x), .no, .no, .no] := rfl
    refine ⟨[.tup [.int ((lkJ (oneJ is) x).getD 0), .tup (is.map .int)]], [.dct (kL (oneJ is)) (vL (oneJ is))], ?_, .one (by omega) old⟩
    unfold F__law_ways body__law_ways
    simp! [ap_newL, ap_listN, ap_opS, ap_unS, ap_appS, ap_setLS, ap_setDS, ap_get2S, ap_dispN, ap_newD0, ap_dictPN, ap_sortDK, ap_unp, ap_mtS, ap_dpopS, stOf_some, born_some, poke_some, lc_loc, Nat.zero_le, drf_int, drf_str, drf_non, drf_bl, drf_tup, drf_lst, drf_dct, nl_int, nl_str, nl_bl, nl_non, nl_loc, dct_of, seq_l, seq_t, isLs_l, ap_par2, ap_inS, ap_revS, lsOf_l, ix0, ix1, r_eqS, n.2.2.1, tk_has, pp_has, sz0, wz, th, pairs_of, nd, drf_dc at_new, kd_i, getd, hg_has]
/-- a map's deeds -/
theorem ways_map {w : Str} {r : List D} {x : Int} (hw : w = "add" ∧ (∃ v, r = [.int v] ∧ 1 ≤ v ∧ v ≤ 999) ∨ w = "drop" ∧ r = [] ∨ w = "get" ∧ r = []) {ps : List (Int × Int)} (hl : ps.length ≤ m) (hn : (ps.map (·.1)).Nodup) (hb : ∀ p ∈ ps, 1 ≤ p.2 ∧ p.2 ≤ 999) : ∃ ws ex, F__law_ways [.str "map", .tup (ps.map WS.pairD), .tup (.str w :: .int x :: r)] (some (c, a, u, st)) = some (.lst ws, some (c, a, u, st ++ ex)) ∧ Wys (m + 1) "map" ws := by
  have n := nq
  obtain ⟨t0, t9, tn⟩ := told_in (x := x) hb
  have old : St (m + 1) "map" (.tup (ps.map WS.pairD)) := .map (by omega) hn hb
  have hlm : (ps.map WS.pairD).length ≤ 1000 := by rw [List.length_map]; omega
  rcases hw with ⟨rfl, v, rfl, hv⟩ | ⟨rfl, rfl⟩ | ⟨rfl, rfl⟩
  · -- add
    have th := there_ok (s := "map") (c := true) (by decide) (map_pairs (ps := ps)) hlm (d := .tup [.str "add", .int x, .int v]) (w := .str "add") (x := x) (k := some (c, a, u, st))
    have nd := kL_nodup hn
    have sz0 : ((ps.map WS.pairD).length < sizeLine) = True := eq_true (by rw [List.length_map, sizeLine_eq]; omega)
    have wz : wipeS [Sl.val (.str "map"), .val (.tup (ps.map WS.pairD)), .val (.tup [.str "add", .int x, .int v]), .val (.str "add"), .val (.int x), .no, .no, .no] [7] = [.val (.str "map"), .val (.tup (ps.map WS.pairD)), .val (.tup [.str "add", .int x, .int v]), .val (.str "add"), .val (.int x), .no, .no, .no] := rfl
    by_cases ht : 0 < (lkJ ps x).getD 0
    · refine ⟨[.tup [.int 0, .tup (ps.map WS.pairD)], .tup [.int 2, .tup (ps.map WS.pairD)]], [.dct (kL ps) (vL ps)], ?_, .two (by omega) old (by omega) old⟩
      unfold F__law_ways body__law_ways
      simp! [ap_newL, ap_listN, ap_opS, ap_unS, ap_appS, ap_setLS, ap_setDS, ap_get2S, ap_dispN, ap_newD0, ap_dictPN, ap_sortDK, ap_unp, ap_mtS, ap_dpopS, stOf_some, born_some, poke_some, lc_loc, Nat.zero_le, drf_int, drf_str, drf_non, drf_bl, drf_tup, drf_lst, drf_dct, nl_int, nl_str, nl_bl, nl_non, nl_loc, dct_of, seq_l, seq_t, isLs_l, ap_par2, ap_inS, ap_revS, lsOf_l, ix0, ix1, r_eqS, n.2.2.2.1, tk_add, pp_add, sz0, wz, th, pairs_of, nd, drf_dc at_new, kd_i, getd, hg_add, ndr, ht]
    · have hx : x ∉ ps.map (·.1) := (tn ht).resolve_right fun z => z hn
      have g1 : gAddB (.tup (ps.map WS.pairD)) (.tup [.tup [.int x, .int v]]) = some (.tup ((ps ++ [(x, v)]).map WS.pairD)) := by rw [r_addT (by simp; omega), List.map_append]; rfl
      have i1 : gIx (.lst [.int x, .tup [.int x, .int v]]) (.int 1) = some (.tup [.int x, .int v]) := rfl
      have srt : gSortedE [.tup ((ps ++ [(x, v)]).map WS.pairD)] = some (.lst ((psort (ps ++ [(x, v)])).map WS.pairD)) := sort_p (by simp)
      refine ⟨[.tup [.int 1, .tup ((psort (ps ++ [(x, v)])).map WS.pairD)], .tup [.int 2, .tup (ps.map WS.pairD)]], [.dct (kL ps) (vL ps)], ?_, .two (by omega) (.map (by rw [(psort_perm _).length_eq]; simp; omega) (((psort_perm _).map _).nodup_iff.mpr ?_) fun p hp => ?_) (by omega) old⟩
      · unfold F__law_ways body__law_ways
        simp! [ap_newL, ap_listN, ap_opS, ap_unS, ap_appS, ap_setLS, ap_setDS, ap_get2S, ap_dispN, ap_newD0, ap_dictPN, ap_sortDK, ap_unp, ap_mtS, ap_dpopS, stOf_some, born_some, poke_some, lc_loc, Nat.zero_le, drf_int, drf_str, drf_non, drf_bl, drf_tup, drf_lst, drf_dct, nl_int, nl_str, nl_bl, nl_non, nl_loc, dct_of, seq_l, seq_t, isLs_l, ap_par2, ap_inS, ap_revS, lsOf_l, ix0, ix1, r_eqS, n.2.2.2.1, tk_add, pp_add, sz0, wz, th, pairs_of, nd, drf_dc at_new, kd_i, getd, hg_add, ndr, ht, List.drop_succ_cons, List.drop_zero, i1, g1, srt]
      · rw [List.map_append, List.nodup_append]
        refine ⟨hn, by simp, fun i hi j hj => ?_⟩
        rw [List.map_cons, List.map_nil, List.mem_singleton] at hj
        subst hj
        exact fun e => hx (e ▸ hi)
      · rcases List.mem_append.mp ((psort_perm _).mem_iff.mp hp) with q | q
        · exact hb p q
        · rw [List.mem_singleton] at q; rw [q]; exact hv
  · -- drop
    have th := there_ok (s := "map") (c := true) (by decide) (map_pairs (ps := ps)) hlm (d := .tup [.str "drop", .int x]) (w := .str "drop") (x := x) (k := some (c, a, u, st))
    have nd := kL_nodup hn
    have sz0 : ((ps.map WS.pairD).length < sizeLine) = True := eq_true (by rw [List.length_map, sizeLine_eq]; omega)
    have wz : wipeS [Sl.val (.str "map"), .val (.tup (ps.map WS.pairD)), .val (.tup [.str "drop", .int x]), .val (.str "drop"), .val (.int x), .no, .no, .no] [7] = [.val (.str "map"), .val (.tup (ps.map WS.pairD)), .val (.tup [.str "drop", .int x]), .val (.str "drop"), .val (.int x), .no, .no, .no] := rfl
    have hc : ∀ (s5 : Sl) (k : Dk) (t : Int), eCompGo [7] (gSet 7) (eAnd (eOp gNeE (eVar 7) (eVar 4)) (eOp gNeE (eVar 7) (eApp gTupD (aCons (eVar 4) (aCons (eVar 6) aNil))))) (eVar 7) (ps.map WS.pairD) [.val (.str "map"), .val (.tup (ps.map WS.pairD)), .val (.tup [.str "drop", .int x]), .val (.str "drop"), .val (.int x), s5, .val (.int t), .no] k = some ((ps.filter fun y => !decide (y = (x, t))).map WS.pairD, [.val (.str "map"), .val (.tup (ps.map WS.pairD)), .val (.tup [.str "drop", .int x]), .val (.str "drop"), .val (.int x), s5, .val (.int t), .no], k) := fun s5 k t => by
      have := comp_pure (vs := [7]) (g := gSet 7) (tt := eAnd (eOp gNeE (eVar 7) (eVar 4)) (eOp gNeE (eVar 7) (eApp gTupD (aCons (eVar 4) (aCons (eVar 6) aNil))))) (elt := eVar 7) (ρ := [.val (.str "map"), .val (.tup (ps.map WS.pairD)), .val (.tup [.str "drop", .int x]), .val (.str "drop"), .val (.int x), s5, .val (.int t), .no]) (k := k) (fun d => match d with
          | .tup [.int y, .int z] => !decide ((y, z) = (x, t))
          | _ => false) id (ps.map WS.pairD) fun d hd => by
        obtain ⟨y, hy, rfl⟩ := List.mem_map.mp hd
        refine ⟨_, [.val (.str "map"), .val (.tup (ps.map WS.pairD)), .val (.tup [.str "drop", .int x]), .val (.str "drop"), .val (.int x), s5, .val (.int t), .val (WS.pairD y)], rfl, ?_, fun _ => ⟨_, rfl, rfl⟩, fun _ => rfl⟩
        simp! [ap_newL, ap_listN, ap_opS, ap_unS, ap_appS, ap_setLS, ap_setDS, ap_get2S, ap_dispN, ap_newD0, ap_dictPN, ap_sortDK, ap_unp, ap_mtS, ap_dpopS, stOf_some, born_some, poke_some, lc_loc, Nat.zero_le, drf_int, drf_str, drf_non, drf_bl, drf_tup, drf_lst, drf_dct, nl_int, nl_str, nl_bl, nl_non, nl_loc, dct_of, seq_l, seq_t, isLs_l, ap_par2, ap_inS, ap_revS, lsOf_l, ne_TI, ne_TT]
        rfl
      rw [this, List.map_id, List.filter_map]
      rfl
    have sz : ((ps.map WS.pairD).length < sizeLine) = True := eq_true (by rw [List.length_map, sizeLine_eq]; omega)
    have w0 : ∀ (s5 : Sl) (t : Int), wipeS [Sl.val (.str "map"), .val (.tup (ps.map WS.pairD)), .val (.tup [.str "drop", .int x]), .val (.str "drop"), .val (.int x), s5, .val (.int t), .no] [7] = [.val (.str "map"), .val (.tup (ps.map WS.pairD)), .val (.tup [.str "drop", .int x]), .val (.str "drop"), .val (.int x), s5, .val (.int t), .no] := fun _ _ => rfl
    have := List.length_filter_le (fun y => !decide (y = (x, (lkJ ps x).getD 0))) ps
    refine ⟨[.tup [.int ((lkJ ps x).getD 0), .tup ((ps.filter fun y => !decide (y = (x, (lkJ ps x).getD 0))).map WS.pairD)]], [.dct (kL ps) (vL ps)], ?_, .one (by omega) (.map (by omega) (hn.sublist (List.filter_sublist.map _)) fun p hp => hb p (List.mem_filter.mp hp).1)⟩
    unfold F__law_ways body__law_ways
    simp! [ap_newL, ap_listN, ap_opS, ap_unS, ap_appS, ap_setLS, ap_setDS, ap_get2S, ap_dispN, ap_newD0, ap_dictPN, ap_sortDK, ap_unp, ap_mtS, ap_dpopS, stOf_some, born_some, poke_some, lc_loc, Nat.zero_le, drf_int, drf_str, drf_non, drf_bl, drf_tup, drf_lst, drf_dct, nl_int, nl_str, nl_bl, nl_non, nl_loc, dct_of, seq_l, seq_t, isLs_l, ap_par2, ap_inS, ap_revS, lsOf_l, ix0, ix1, r_eqS, n.2.2.2.1, tk_drop, pp_drop, sz0, wz, th, pairs_of, nd, drf_dc at_new, kd_i, getd, hg_drop, sz, w0, hc]
  · -- get
    have th := there_ok (s := "map") (c := true) (by decide) (map_pairs (ps := ps)) hlm (d := .tup [.str "get", .int x]) (w := .str "get") (x := x) (k := some (c, a, u, st))
    have nd := kL_nodup hn
    have sz0 : ((ps.map WS.pairD).length < sizeLine) = True := eq_true (by rw [List.length_map, sizeLine_eq]; omega)
    have wz : wipeS [Sl.val (.str "map"), .val (.tup (ps.map WS.pairD)), .val (.tup [.str "get", .int x]), .val (.str "get"), .val (.int x), .no, .no, .no] [7] = [.val (.str "map"), .val (.tup (ps.map WS.pairD)), .val (.tup [.str "get", .int x]), .val (.str "get"), .val (.int x), .no, .no, .no] := rfl
    refine ⟨[.tup [.int ((lkJ ps x).getD 0), .tup (ps.map WS.pairD)]], [.dct (kL ps) (vL ps)], ?_, .one (by omega) old⟩
    unfold F__law_ways body__law_ways
    simp! [ap_newL, ap_listN, ap_opS, ap_unS, ap_appS, ap_setLS, ap_setDS, ap_get2S, ap_dispN, ap_newD0, ap_dictPN, ap_sortDK, ap_unp, ap_mtS, ap_dpopS, stOf_some, born_some, poke_some, lc_loc, Nat.zero_le, drf_int, drf_str, drf_non, drf_bl, drf_tup, drf_lst, drf_dct, nl_int, nl_str, nl_bl, nl_non, nl_loc, dct_of, seq_l, seq_t, isLs_l, ap_par2, ap_inS, ap_revS, lsOf_l, ix0, ix1, r_eqS, n.2.2.2.1, tk_get, pp_get, sz0, wz, th, pairs_of, nd, drf_dc at_new, kd_i, getd, hg_get]
theorem ways_ok {s : Str} {σ d : D} (hσ : St m s σ) (hd : Dd s d) : ∃ ws ex, F__law_ways [.str s, σ, d] (some (c, a, u, st)) = some (.lst ws, some (c, a, u, st ++ ex)) ∧ Wys (m + 1) s ws := by
  have nil : ∀ {s : Str} {σ d : D}, (∃ ws, F__law_ways [.str s, σ, d] (some (c, a, u, st)) = some (.lst ws, some (c, a, u, st)) ∧ Wys (m + 1) s ws) → ∃ ws ex, F__law_ways [.str s, σ, d] (some (c, a, u, st)) = some (.lst ws, some (c, a, u, st ++ ex)) ∧ Wys (m + 1) s ws := fun {s σ d} ⟨ws, e, h⟩ => ⟨ws, [], by rw [List.append_nil]; exact e, h⟩
  have cnt : ∀ {i : Int} (up : Bool), 0 ≤ i ∧ i ≤ m → ∃ ws ex, F__law_ways [.str "count", .int i, .tup [.str (if up = true then "up" else "look")]] (some (c, a, u, st)) = some (.lst ws, some (c, a, u, st ++ ex)) ∧ Wys (m + 1) "count" ws := fun {i} up h => nil ⟨_, ways_count hm h up, .one (by cases up <;> (simp; omega)) (.count (by cases up <;> (simp; omega)))⟩
  cases hd with
  | up =>
    cases hσ with
    | count h => exact cnt true h
    | seq a b c => rcases a with a | a <;> cases a
  | look =>
    cases hσ with
    | count h => exact cnt false h
    | seq a b c => rcases a with a | a <;> cases a
  | put h =>
    cases hσ with
    | seq e l b => exact nil (ways_put hm (.inl ⟨rfl, rfl⟩) h l b)
  | take =>
    cases hσ with
    | seq e l b => exact nil (ways_take hm (.inl ⟨rfl, rfl⟩) l b)
  | push h =>
    cases hσ with
    | seq e l b => exact nil (ways_put hm (.inr ⟨rfl, rfl⟩) h l b)
  | pop =>
    cases hσ with
    | seq e l b => exact nil (ways_take hm (.inr ⟨rfl, rfl⟩) l b)
  | sadd h =>
    cases hσ with
    | seq a b c => rcases a with a | a <;> cases a
    | set l n => exact ways_set hm (.inl rfl) l n
  | sdrop h =>
    cases hσ with
    | seq a b c => rcases a with a | a <;> cases a
    | set l n => exact ways_set hm (.inr (.inl rfl)) l n
  | shas h =>
    cases hσ with
    | seq a b c => rcases a with a | a <;> cases a
    | set l n => exact ways_set hm (.inr (.inr rfl)) l n
  | madd h g =>
    cases hσ with
    | seq a b c => rcases a with a | a <;> cases a
    | map l n b => exact ways_map hm (.inl ⟨rfl, _, rfl, g⟩) l n b
  | mdrop h =>
    cases hσ with
    | seq a b c => rcases a with a | a <;> cases a
    | map l n b => exact ways_map hm (.inr (.inl ⟨rfl, rfl⟩)) l n b
  | mget h =>
    cases hσ with
    | seq a b c => rcases a with a | a <;> cases a
    | map l n b => exact ways_map hm (.inr (.inr ⟨rfl, rfl⟩)) l n b
end
end W30
namespace W30
open PySem PySem.Spec L2
open WS hiding DkOk draw_ok
def ks3 : List Key := [.inr "count", .inr "set", .inr "queue"]
def vs3 : List D := [.lst [.str "up", .str "look"], .lst [.str "add", .str "drop", .str "has"], .lst [.str "put", .str "take"]]
def ks5 : List Key := [.inr "count", .inr "set", .inr "queue", .inr "stack", .inr "map"]
def vs5 : List D := [.lst [.str "up", .str "look"], .lst [.str "add", .str "drop", .str "has"], .lst [.str "put", .str "take"], .lst [.str "push", .str "pop"], .lst [.str "add", .str "drop", .str "get"]]
section
variable {s : Str} {x y : D} {k : Dk}
theorem own3 : sOwnD 4 [.inr "count", .inr "set", .inr "queue"] (aCons (eApp gLstD (aCons (eC (.str "up")) (aCons (eC (.str "look")) aNil))) (aCons (eApp gLstD (aCons (eC (.str "add")) (aCons (eC (.str "drop")) (aCons (eC (.str "has")) aNil)))) (aCons (eApp gLstD (aCons (eC (.str "put")) (aCons (eC (.str "take")) aNil))) aNil))) [.val .deck, .val (.str s), .val x, .val y, .no, .no] k = some (.nx, [.val .deck, .val (.str s), .val x, .val y, .own (.dct ks3 vs3), .no], k) := by kernel_rfl!
end
theorem dd2 : dctD (.dct [.inr "stack", .inr "map"] [.lst [.str "push", .str "pop"], .lst [.str "add", .str "drop", .str "get"]]) = some ([.inr "stack", .inr "map"], [.lst [.str "push", .str "pop"], .lst [.str "add", .str "drop", .str "get"]]) := rfl
theorem sz2 : (ks3.length + 2 ≤ sizeLine) = True := eq_true (by rw [sizeLine_eq]; decide)
theorem mg2 : mergeD ks3 vs3 [.inr "stack", .inr "map"] [.lst [.str "push", .str "pop"], .lst [.str "add", .str "drop", .str "get"]] = (ks5, vs5) := by kernel_rfl!
theorem og_count : lkD ks5 vs5 (.inr "count") = some (.lst [.str "up", .str "look"]) := by kernel_rfl!
theorem og_set : lkD ks5 vs5 (.inr "set") = some (.lst [.str "add", .str "drop", .str "has"]) := by kernel_rfl!
theorem og_queue : lkD ks5 vs5 (.inr "queue") = some (.lst [.str "put", .str "take"]) := by kernel_rfl!
theorem og_stack : lkD ks5 vs5 (.inr "stack") = some (.lst [.str "push", .str "pop"]) := by kernel_rfl!
theorem og_map : lkD ks5 vs5 (.inr "map") = some (.lst [.str "add", .str "drop", .str "get"]) := by kernel_rfl!
theorem al_t {w : Str} (h : w = "up" ∨ w = "look" ∨ w = "take" ∨ w = "pop") : gIn (.str w) (.tup [.str "up", .str "look", .str "take", .str "pop"]) = some (.bl true) := by
  rcases h with h | h | h | h <;> subst h <;> kernel_rfl!
theorem al_f {w : Str} (h : w = "add" ∨ w = "drop" ∨ w = "has" ∨ w = "get" ∨ w = "put" ∨ w = "push") : gIn (.str w) (.tup [.str "up", .str "look", .str "take", .str "pop"]) = some (.bl false) := by
  rcases h with h | h | h | h | h | h <;> subst h <;> kernel_rfl!
theorem deed_ok {s : Str} (hs : Sp s) {st : List D} {n : Nat} {k : Dk} (h : DkS st n k) (hn : n < 1000000000) : ∃ d k', F__law_deed [.deck, .str s] k = some (d, k') ∧ Dd s d ∧ DkS st (n + 3) k' := by
  obtain ⟨x, k1, e1, hx, d1⟩ := pick_ok h [.int 1, .int 2, .int 3, .int 999] ⟨by simp, by simp⟩ (by omega)
  obtain ⟨y, k2, e2, hy, d2⟩ := pick_ok d1 [.int 1, .int 2, .int 5, .int 999] ⟨by simp, by simp⟩ (by omega)
  have hx : ∃ i : Int, x = .int i ∧ 0 ≤ i ∧ i ≤ 999 := by
    simp only [List.mem_cons, List.not_mem_nil, or_false] at hx
    rcases hx with rfl | rfl | rfl | rfl <;> exact ⟨_, rfl, by omega, by omega⟩
  have hy : ∃ i : Int, y = .int i ∧ 1 ≤ i ∧ i ≤ 999 := by
    simp only [List.mem_cons, List.not_mem_nil, or_false] at hy
    rcases hy with rfl | rfl | rfl | rfl <;> exact ⟨_, rfl, by omega, by omega⟩
  obtain ⟨i, rfl, i0, i9⟩ := hx
  obtain ⟨v, rfl, v0, v9⟩ := hy
  have q := nq
  have z0 : gIx (.lst [.int i, .int v]) (.int 0) = some (.int i) := rfl
  have z1 : gIx (.lst [.int i, .int v]) (.int 1) = some (.int v) := rfl
  have mo : gMod (.int i) (.int 64) = some (.int (i % 64)) := rfl
  have m0 := Int.emod_nonneg i (show (64 : Int) ≠ 0 by decide)
  have m1 := Int.emod_lt_of_pos i (show (0 : Int) < 64 by decide)
  rcases hs with rfl | rfl | rfl | rfl | rfl
  · obtain ⟨w, k3, e3, hw, d3⟩ := pick_ok d2 [.str "up", .str "look"] ⟨by simp, by simp⟩ (by omega)
    simp only [List.mem_cons, List.not_mem_nil, or_false] at hw
    rcases hw with rfl | rfl
    · refine ⟨_, k3, ?_, .up, d3⟩
      unfold F__law_deed body__law_deed
      simp! [e1, e2, own3, dd2, sz2, mg2, og_count, e3, al_t (w := "up") (by simp)]
    · refine ⟨_, k3, ?_, .look, d3⟩
      unfold F__law_deed body__law_deed
      simp! [e1, e2, own3, dd2, sz2, mg2, og_count, e3, al_t (w := "look") (by simp)]
  · obtain ⟨w, k3, e3, hw, d3⟩ := pick_ok d2 [.str "add", .str "drop", .str "has"] ⟨by simp, by simp⟩ (by omega)
    simp only [List.mem_cons, List.not_mem_nil, or_false] at hw
    rcases hw with rfl | rfl | rfl
    · refine ⟨_, k3, ?_, .sadd (i := i) ⟨i0, i9⟩, d3⟩
      unfold F__law_deed body__law_deed
      simp! [e1, e2, own3, dd2, sz2, mg2, og_set, e3, al_f (w := "add") (by simp), r_eqS, r_neS, q.2.2.2.2.1, z0]
    · refine ⟨_, k3, ?_, .sdrop (i := i) ⟨i0, i9⟩, d3⟩
      unfold F__law_deed body__law_deed
      simp! [e1, e2, own3, dd2, sz2, mg2, og_set, e3, al_f (w := "drop") (by simp), r_eqS, r_neS, q.2.2.2.2.1, z0]
    · refine ⟨_, k3, ?_, .shas (i := i) ⟨i0, i9⟩, d3⟩
      unfold F__law_deed body__law_deed
      simp! [e1, e2, own3, dd2, sz2, mg2, og_set, e3, al_f (w := "has") (by simp), r_eqS, r_neS, q.2.2.2.2.1, z0]
  · obtain ⟨w, k3, e3, hw, d3⟩ := pick_ok d2 [.str "put", .str "take"] ⟨by simp, by simp⟩ (by omega)
    have q2 : ¬ (("queue" : Str) = "set") := by decide
    simp only [List.mem_cons, List.not_mem_nil, or_false] at hw
    rcases hw with rfl | rfl
    · refine ⟨_, k3, ?_, .put (i := v) ⟨by omega, v9⟩, d3⟩
      unfold F__law_deed body__law_deed
      simp! [e1, e2, own3, dd2, sz2, mg2, og_queue, e3, al_f (w := "put") (by simp), r_eqS, r_neS, q.2.2.2.2.2.1, q2, z1]
    · refine ⟨_, k3, ?_, .take, d3⟩
      unfold F__law_deed body__law_deed
      simp! [e1, e2, own3, dd2, sz2, mg2, og_queue, e3, al_t (w := "take") (by simp)]
  · obtain ⟨w, k3, e3, hw, d3⟩ := pick_ok d2 [.str "push", .str "pop"] ⟨by simp, by simp⟩ (by omega)
    have q2 : ¬ (("stack" : Str) = "set") := by decide
    simp only [List.mem_cons, List.not_mem_nil, or_false] at hw
    rcases hw with rfl | rfl
    · refine ⟨_, k3, ?_, .push (i := v) ⟨by omega, v9⟩, d3⟩
      unfold F__law_deed body__law_deed
      simp! [e1, e2, own3, dd2, sz2, mg2, og_stack, e3, al_f (w := "push") (by simp), r_eqS, r_neS, q.2.2.2.2.2.2, q2, z1]
    · refine ⟨_, k3, ?_, .pop, d3⟩
      unfold F__law_deed body__law_deed
      simp! [e1, e2, own3, dd2, sz2, mg2, og_stack, e3, al_t (w := "pop") (by simp)]
  · obtain ⟨w, k3, e3, hw, d3⟩ := pick_ok d2 [.str "add", .str "drop", .str "get"] ⟨by simp, by simp⟩ (by omega)
    have g1 : ∀ w : Str, gAddB (.tup [.str w, .int (i % 64)]) (.tup [.int v]) = some (.tup [.str w, .int (i % 64), .int v]) := fun w => r_addT (by simp)
    have g0 : ∀ w : Str, gAddB (.tup [.str w, .int (i % 64)]) (.tup []) = some (.tup [.str w, .int (i % 64)]) := fun w => r_addT (by simp)
    have n1 : ¬ (("drop" : Str) = "add") := by decide
    have n2 : ¬ (("get" : Str) = "add") := by decide
    simp only [List.mem_cons, List.not_mem_nil, or_false] at hw
    rcases hw with rfl | rfl | rfl
    · refine ⟨_, k3, ?_, .madd (i := i % 64) (v := v) ⟨m0, by omega⟩ ⟨v0, v9⟩, d3⟩
      unfold F__law_deed body__law_deed
      simp! [e1, e2, own3, dd2, sz2, mg2, og_map, e3, al_f (w := "add") (by simp), r_eqS, mo, mul1, g1]
    · refine ⟨_, k3, ?_, .mdrop (i := i % 64) ⟨m0, by omega⟩, d3⟩
      unfold F__law_deed body__law_deed
      simp! [e1, e2, own3, dd2, sz2, mg2, og_map, e3, al_f (w := "drop") (by simp), r_eqS, mo, mul0, g0, n1]
    · refine ⟨_, k3, ?_, .mget (i := i % 64) ⟨m0, by omega⟩, d3⟩
      unfold F__law_deed body__law_deed
      simp! [e1, e2, own3, dd2, sz2, mg2, og_map, e3, al_f (w := "get") (by simp), r_eqS, mo, mul0, g0, n2]
end W30
namespace W30
open PySem PySem.Spec L2
open WS hiding DkOk draw_ok
structure Hs where
  rows : List Row
  op : List (Int × Int)
  told : List (Int × Int)
  ord : List Nat
  σ : D
  step : Int
/-- how it stands in the store, from place b on -/
structure HAt (b : Nat) (rl : List Nat) (h : Hs) (st : List D) : Prop where
  r : st[b]? = some (.lst (rl.map .loc))
  a : st[b + 1]? = some (.dct (kL h.op) (vL h.op))
  t : st[b + 2]? = some (.dct (kL h.told) (vL h.told))
  o : st[b + 3]? = some (.lst (h.ord.map nD))
  l : rl.length = h.rows.length
  w : ∀ (i n : Nat) (r : Row), rl[i]? = some n → h.rows[i]? = some r → st[n]? = some (.lst (rowL r))
  g : ∀ n ∈ rl, b + 4 ≤ n ∧ n < st.length
  nd : rl.Nodup
def Good (rows : List Row) (a b : Nat) : Prop := ∀ (ra rb : Row) (e : Int), rows[a]? = some ra → rows[b]? = some rb → rb.e = some e → ra.b ≤ e
def Told (d : D) : Prop := d = .non ∨ ∃ t : Int, d = .int t ∧ -1000000 ≤ t ∧ t ≤ 1000000
structure Inv (s : Str) (m : Nat) (z : Int) (h : Hs) : Prop where
  len : h.rows.length ≤ 10
  an : (h.op.map (·.1)).Nodup
  ao : ∀ p ∈ h.op, ∃ (n : Nat) (r : Row), p.2 = (n : Int) ∧ h.rows[n]? = some r ∧ r.e = none
  ai : (h.op.map (·.2)).Nodup
  tn : (h.told.map (·.1)).Nodup
  tt : ∀ p ∈ h.told, (∃ n : Nat, (p.1, (n : Int)) ∈ h.op ∧ n ∈ h.ord) ∧ -1000000 ≤ p.2 ∧ p.2 ≤ 1000000
  ol : ∀ n ∈ h.ord, n < h.rows.length
  om : h.ord.length ≤ m
  rb : ∀ r ∈ h.rows, (0 ≤ r.b ∧ r.b ≤ h.step) ∧ Dd s r.deed ∧ Told r.told ∧ (0 ≤ r.hand ∧ r.hand ≤ 3) ∧ ∀ e, r.e = some e → 0 ≤ e ∧ e ≤ 5000
  en : ∀ (n : Nat) (r : Row), h.rows[n]? = some r → r.e ≠ none → n ∈ h.ord
  pw : h.ord.Pairwise (Good h.rows)
  self : ∀ n ∈ h.ord, Good h.rows n n
  st : St m s h.σ
  oz : h.op.length ≤ h.rows.length
  tz : h.told.length ≤ m
  sp : 0 ≤ h.step ∧ h.step ≤ z
theorem any_kL {js : List (Int × Int)} {x : Int} (h : x ∉ js.map (·.1)) : ((kL js).any fun k => decide (k = .inl x)) = false := by
  rw [List.any_eq_false]
  intro k hk
  obtain ⟨p, hp, rfl⟩ := List.mem_map.mp hk
  have : p.1 ≠ x := fun e => h (e ▸ List.mem_map.mpr ⟨p, hp, rfl⟩)
  simpa using this
theorem put_new {js : List (Int × Int)} {x v : Int} (h : x ∉ js.map (·.1)) : putD (kL js) (vL js) (.inl x) (.int v) = (kL (js ++ [(x, v)]), vL (js ++ [(x, v)])) := by
  unfold putD
  rw [any_kL h, if_neg Bool.false_ne_true]
  unfold kL vL
  simp
def restP (js : List (Int × Int)) (x : Int) : List (Int × Int) := js.filter fun p => !decide (p.1 = x)
theorem drop_kL (x : Int) : ∀ js, dropD (kL js) (vL js) (.inl x) = (kL (restP js x), vL (restP js x))
  | [] => rfl
  | p :: r => by
    show (if (Sum.inl p.1 : Key) = .inl x then dropD (kL r) (vL r) (.inl x) else _) = _
    have ih := drop_kL x r
    unfold restP at *
    by_cases h : p.1 = x
    · rw [if_pos (by rw [h]), ih, List.filter_cons_of_neg (by simp [h])]
    · rw [if_neg (fun e => h (by injection e))]
      show ((Sum.inl p.1 : Key) :: (dropD (kL r) (vL r) (.inl x)).1, D.int p.2 :: (dropD (kL r) (vL r) (.inl x)).2) = _
      rw [ih, List.filter_cons_of_pos (by simp [h])]
      rfl
theorem in_kL {neg : Bool} {js : List (Int × Int)} {x : Int} : gInN neg (.int x) (.dct (kL js) (vL js)) = some (.bl (neg != (lkJ js x).isSome)) := by
  show ((keyD (.int x)).map fun z => D.bl (neg != (lkD (kL js) (vL js) z).isSome)) = _
  show some (D.bl (neg != (lkD (kL js) (vL js) (.inl x)).isSome)) = _
  rw [lk_js]
  cases lkJ js x <;> rfl
theorem get_kL {js : List (Int × Int)} {x v : Int} (h : lkJ js x = some v) : gGet (.dct (kL js) (vL js)) (.int x) = some (.int v) := by
  show lkD (kL js) (vL js) (.inl x) = _
  rw [lk_js, h]; rfl
theorem lkJ_key {js : List (Int × Int)} {x : Int} (h : lkJ js x = none) : x ∉ js.map (·.1) := by
  induction js with
  | nil => simp
  | cons p r ih =>
    unfold lkJ at h
    by_cases c : p.1 = x
    · rw [if_pos c] at h; cases h
    · rw [if_neg c] at h
      rw [List.map_cons, List.mem_cons, not_or]
      exact ⟨fun e => c e.symm, ih h⟩
section
variable {b : Nat} {rl : List Nat} {h : Hs} {st : List D} (A : HAt b rl h st)
include A
theorem HAt.lt : b + 3 < st.length := (List.getElem?_eq_some_iff.mp A.o).1
theorem HAt.grow (ex : List D) : HAt b rl h (st ++ ex) := by
  refine ⟨at_born A.r, at_born A.a, at_born A.t, at_born A.o, A.l, fun i n r h1 h2 => at_born (A.w i n r h1 h2), fun n hn => ?_, A.nd⟩
  have := A.g n hn
  rw [List.length_append]
  omega
theorem HAt.row {i n : Nat} {r : Row} (h1 : rl[i]? = some n) (h2 : h.rows[i]? = some r) : st[n]? = some (.lst (rowL r)) := A.w i n r h1 h2
theorem HAt.loc {i : Nat} {r : Row} (h2 : h.rows[i]? = some r) : ∃ n, rl[i]? = some n ∧ st[n]? = some (.lst (rowL r)) ∧ b + 4 ≤ n := by
  have hi : i < rl.length := by rw [A.l]; exact (List.getElem?_eq_some_iff.mp h2).1
  exact ⟨rl[i], List.getElem?_eq_getElem hi, A.w i _ r (List.getElem?_eq_getElem hi) h2, (A.g _ (List.getElem_mem hi)).1⟩
/-- all hands of the rows -/
theorem hands_ok (hl : h.rows.length ≤ 10) {c : List Int} {a u : Int} {s0 s1 s2 s3 s5 s6 s7 s8 s9 s10 s11 s12 s13 s14 : Sl} :
    eCompG (srcL (eVar 4)) [15] (gSet 15) (eC (.bl true)) (eOpS 1 gIx (eVar 15) (eC (.int 0))) [s0, s1, s2, s3, .val (.loc b), s5, s6, s7, s8, s9, s10, s11, s12, s13, s14, .no] (some (c, a, u, st)) = some (.lst (h.rows.map fun r => .int r.hand), [s0, s1, s2, s3, .val (.loc b), s5, s6, s7, s8, s9, s10, s11, s12, s13, s14, .no], some (c, a, u, st)) := by
  have e0 : srcL (eVar 4) [s0, s1, s2, s3, .val (.loc b), s5, s6, s7, s8, s9, s10, s11, s12, s13, s14, .no] (some (c, a, u, st)) = some (nxL b, (rl.map D.loc).length + 1, [s0, s1, s2, s3, .val (.loc b), s5, s6, s7, s8, s9, s10, s11, s12, s13, s14, .no], some (c, a, u, st)) := srcL_of (rfl : eVar 4 [s0, s1, s2, s3, .val (.loc b), s5, s6, s7, s8, s9, s10, s11, s12, s13, s14, .no] (some (c, a, u, st)) = some (.loc b, [s0, s1, s2, s3, .val (.loc b), s5, s6, s7, s8, s9, s10, s11, s12, s13, s14, .no], some (c, a, u, st))) A.r
  have hd : (stOf (some (c, a, u, st)))[b]? = some (.lst (rl.map D.loc)) := A.r
  have key := gcompL_map (n := b) (k := some (c, a, u, st)) (ρ := [s0, s1, s2, s3, .val (.loc b), s5, s6, s7, s8, s9, s10, s11, s12, s13, s14, .no]) (g := gSet 15) (vs := [15]) (tt := eC (.bl true)) (elt := eOpS 1 gIx (eVar 15) (eC (.int 0))) (fun d => match d with
      | .loc n => match st[n]? with
        | some (.lst (x :: _)) => x
        | _ => .non
      | _ => .non) hd (fun d hdm => by
    obtain ⟨n, hn, rfl⟩ := List.mem_map.mp hdm
    obtain ⟨i, hi⟩ := List.mem_iff_getElem?.mp hn
    have hil : i < h.rows.length := by rw [← A.l]; exact (List.getElem?_eq_some_iff.mp hi).1
    have hw := A.w i n h.rows[i] hi (List.getElem?_eq_getElem hil)
    refine ⟨_, _, [s0, s1, s2, s3, .val (.loc b), s5, s6, s7, s8, s9, s10, s11, s12, s13, s14, .val (.loc n)], rfl, rfl, ?_, rfl⟩
    have i0 : gIx (.lst (rowL h.rows[i])) (.int 0) = some (.int h.rows[i].hand) := WS.ix_lst (xs := rowL h.rows[i]) (n := 0)
    simp! [ap_newL, ap_listN, ap_opS, ap_unS, ap_appS, ap_setLS, ap_setDS, ap_get2S, ap_dispN, ap_newD0, ap_dictPN, ap_sortDK, ap_unp, ap_mtS, ap_dpopS, stOf_some, born_some, poke_some, lc_loc, Nat.zero_le, drf_int, drf_str, drf_non, drf_bl, drf_tup, drf_lst, drf_dct, nl_int, nl_str, nl_bl, nl_non, nl_loc, dct_of, seq_l, seq_t, isLs_l, ap_par2, ap_inS, ap_revS, lsOf_l, drf_ls hw, i0]
    rw [hw]; rfl) ((rl.map D.loc).length + 1) 0 (by omega) (by omega)
  have e2 : (rl.map D.loc).map (fun d => match d with
      | .loc n => match st[n]? with
        | some (.lst (x :: _)) => x
        | _ => .non
      | _ => .non) = h.rows.map fun r => D.int r.hand := by
    rw [List.map_map]
    refine List.ext_getElem? fun i => ?_
    rw [List.getElem?_map, List.getElem?_map]
    cases hi : rl[i]? with
    | none =>
      have : h.rows[i]? = none := List.getElem?_eq_none_iff.mpr (by rw [← A.l]; exact List.getElem?_eq_none_iff.mp hi)
      rw [this]; rfl
    | some n =>
      have hil : i < h.rows.length := by rw [← A.l]; exact (List.getElem?_eq_some_iff.mp hi).1
      have hw := A.w i n h.rows[i] hi (List.getElem?_eq_getElem hil)
      rw [List.getElem?_eq_getElem hil]
      simp only [Option.map_some, Function.comp, hw]
      rfl
  rw [List.drop_zero, e2] at key
  unfold eCompG gComp0
  rw [e0, Option.bind_some]
  dsimp only
  rw [if_pos (by rw [List.length_map, A.l, sizeLine_eq]; omega)]
  have hw : wipeS [s0, s1, s2, s3, .val (.loc b), s5, s6, s7, s8, s9, s10, s11, s12, s13, s14, .no] [15] = [s0, s1, s2, s3, .val (.loc b), s5, s6, s7, s8, s9, s10, s11, s12, s13, s14, .no] := rfl
  rw [hw, key]
  rfl
end
end W30
namespace W30
open PySem PySem.Spec L2
open WS hiding DkOk draw_ok
def S1 : SS := sPar2 12 13 (aCons (eCallF 2 WS.F_draw2 (aCons (eVar 0) (aCons (eVar 2) (aNil)))) (aCons (eCallF 2 WS.F_draw2 (aCons (eVar 0) (aCons (eC (.int 6)) (aNil)))) (aNil)))
def S2 : SS := sIf (eAnd (eInS true (eVar 12) (eVar 5)) (eAnd (eOp gLt (eAppS 1 gLen (aCons (eVar 4) (aNil))) (eVar 3)) (eOp gLt (eOp gCountI (eCompG (srcL (eVar 4)) [15] (gSet 15) (eC (.bl true)) (eOpS 1 gIx (eVar 15) (eC (.int 0)))) (eVar 12)) (eC (.int 12))))) (sSeq (sSetDS (eVar 5) (eVar 12) (eAppS 1 gLen (aCons (eVar 4) (aNil))))
 (sSeq (sDrop (eMtS mAppend (eVar 4) (aCons (eNewL (aCons (eVar 12) (aCons (eCallF 2 W30.F__law_deed (aCons (eVar 0) (aCons (eVar 1) (aNil)))) (aCons (eC .non) (aCons (eVar 9) (aCons (eC .non) (aNil))))))) (aNil))))
 (sSeq (sAsg (gSet 9) (eOp gAddB (eVar 9) (eOp gMul (eApp gInt (aCons (eOp gGt (eVar 13) (eC (.int 0))) (aNil))) (eOp gAddB (eC (.int 1)) (eCallF 2 WS.F_draw2 (aCons (eVar 0) (aCons (eVar 10) (aNil))))))))
 (sNil)))) (sSeq (sIf (eAnd (eInS false (eVar 12) (eVar 5)) (eInS true (eVar 12) (eVar 6))) (sSeq (sAsg (gSet 13) (eC (.int 2)))
 (sNil)) (sNil))
 (sNil))
def S3 : SS := sIf (eAnd (eInS false (eVar 12) (eVar 5)) (eAnd (eInS true (eVar 12) (eVar 6)) (eOp gIn (eVar 13) (eApp gTupD (aCons (eC (.int 0)) (aCons (eC (.int 2)) (aNil))))))) (sSeq (sAsg (gSet 14) (eCallF 3 W30.F__law_ways (aCons (eVar 1) (aCons (eVar 8) (aCons (eOpS 1 gIx (eOpS 1 gIx (eVar 4) (eOpS 1 gGet (eVar 5) (eVar 12))) (eC (.int 1))) (aNil))))))
 (sSeq (sAsgS (kTup (kCons (kDS (eVar 6) (eVar 12)) (kCons (kSet 8) (kNil)))) (eIf (eOp gEqE (eCallF 2 WS.F_draw2 (aCons (eVar 0) (aCons (eC (.int 8)) (aNil)))) (eC (.int 0))) (eOp gIx (eVar 14) (eUn gNeg (eC (.int 1)))) (eOp gIx (eVar 14) (eC (.int 0)))))
 (sSeq (sDrop (eMtS mAppend (eVar 7) (aCons (eOpS 1 gGet (eVar 5) (eVar 12)) (aNil))))
 (sSeq (sAsg (gSet 13) (eOp gIx (eApp gLstD (aCons (eVar 13) (aCons (eC (.int 6)) (aNil)))) (eApp gInt (aCons (eOp gEqE (eVar 13) (eC (.int 2))) (aNil)))))
 (sNil))))) (sNil)
def S4 : SS := sIf (eAnd (eInS false (eVar 12) (eVar 6)) (eOp gLt (eVar 13) (eC (.int 5)))) (sSeq (sSlS (eApp gLstD (aCons (eDPopS (eVar 6) (eVar 12)) (aCons (eOpS 1 gIx (eOpS 1 gIx (eVar 4) (eOpS 1 gGet (eVar 5) (eVar 12))) (eC (.int 3))) (aCons (eVar 9) (aNil))))) (eOpS 1 gIx (eVar 4) (eOpS 1 gGet (eVar 5) (eVar 12))) (eC (.int 2)))
 (sSeq (sDrop (eDPopS (eVar 5) (eVar 12)))
 (sSeq (sAsg (gSet 9) (eOp gAddB (eOp gAddB (eVar 9) (eC (.int 1))) (eCallF 2 WS.F_draw2 (aCons (eVar 0) (aCons (eVar 10) (aNil))))))
 (sNil)))) (sNil)
theorem turn_is : L1__law_history = sSeq S1 (sSeq S2 (sSeq S3 (sSeq S4 sNil))) := rfl
def sl0 (s : Str) (H M far : Int) (b : Nat) (σ : D) (step : Int) (turn hand way wh : Sl) : List Sl := [.val .deck, .val (.str s), .val (.int H), .val (.int M), .val (.loc b), .val (.loc (b + 1)), .val (.loc (b + 2)), .val (.loc (b + 3)), .val σ, .val (.int step), .val (.int far), turn, hand, way, wh, .no]
/-- a new row -/
def newR (x : Int) (d : D) (h : Hs) (t : Int) : Hs := { h with rows := h.rows ++ [⟨x, d, .non, h.step, none⟩], op := h.op ++ [(x, (h.rows.length : Int))], step := h.step + t }
theorem good_app {rows : List Row} {r : Row} {a b : Nat} (ha : a < rows.length) (hb : b < rows.length) (g : Good rows a b) : Good (rows ++ [r]) a b := fun ra rb e h1 h2 h3 => by
  rw [List.getElem?_append_left ha] at h1
  rw [List.getElem?_append_left hb] at h2
  exact g ra rb e h1 h2 h3
theorem inv_new {s : Str} {m : Nat} {z : Int} {h : Hs} (I : Inv s m z h) {x : Int} (hx : 0 ≤ x ∧ x ≤ 3) (hn : x ∉ h.op.map (·.1)) (hl : h.rows.length < 10) {d : D} (hd : Dd s d) {t : Int} (ht : 0 ≤ t ∧ t ≤ 40) : Inv s m (z + 40) (newR x d h t) := by
  have lt : ∀ p ∈ h.op, ∃ n : Nat, p.2 = (n : Int) ∧ n < h.rows.length := fun p hp => by
    obtain ⟨n, r, e1, e2, _⟩ := I.ao p hp
    exact ⟨n, e1, (List.getElem?_eq_some_iff.mp e2).1⟩
  have hsp := I.sp
  refine ⟨?_, ?_, fun p hp => ?_, ?_, I.tn, fun p hp => ?_, fun n hn => ?_, I.om, fun r hr => ?_, fun n r hr he => ?_, ?_, fun n hn => ?_, I.st, ?_, I.tz, ?_⟩
  · show (h.rows ++ [_]).length ≤ 10
    rw [List.length_append, List.length_singleton]; omega
  · show ((h.op ++ [(x, (h.rows.length : Int))]).map (·.1)).Nodup
    rw [List.map_append, List.nodup_append]
    refine ⟨I.an, by simp, fun i hi j hj => ?_⟩
    rw [List.map_cons, List.map_nil, List.mem_singleton] at hj
    subst hj
    exact fun e => hn (e ▸ hi)
  · show ∃ (n : Nat) (r : Row), p.2 = (n : Int) ∧ (h.rows ++ [_])[n]? = some r ∧ r.e = none
    rcases List.mem_append.mp hp with q | q
    · obtain ⟨n, r, e1, e2, e3⟩ := I.ao p q
      exact ⟨n, r, e1, by rw [List.getElem?_append_left (List.getElem?_eq_some_iff.mp e2).1]; exact e2, e3⟩
    · rw [List.mem_singleton] at q
      subst q
      exact ⟨h.rows.length, _, rfl, by rw [List.getElem?_append_right (Nat.le_refl _), Nat.sub_self]; rfl, rfl⟩
  · show ((h.op ++ [(x, (h.rows.length : Int))]).map (·.2)).Nodup
    rw [List.map_append, List.nodup_append]
    refine ⟨I.ai, by simp, fun i hi j hj => ?_⟩
    rw [List.map_cons, List.map_nil, List.mem_singleton] at hj
    subst hj
    obtain ⟨p, hp, rfl⟩ := List.mem_map.mp hi
    obtain ⟨n, e1, e2⟩ := lt p hp
    intro e
    rw [e1] at e
    have e : (n : Int) = (h.rows.length : Int) := e
    omega
  · obtain ⟨⟨n, h1, h2⟩, h3⟩ := I.tt p hp
    exact ⟨⟨n, List.mem_append_left _ h1, h2⟩, h3⟩
  · have := I.ol n hn
    show n < (h.rows ++ [_]).length
    rw [List.length_append]; omega
  · have hr : r ∈ h.rows ++ [⟨x, d, .non, h.step, none⟩] := hr
    rcases List.mem_append.mp hr with q | q
    · obtain ⟨h1, h2, h3, h4, h5⟩ := I.rb r q
      exact ⟨⟨h1.1, by show r.b ≤ h.step + t; omega⟩, h2, h3, h4, h5⟩
    · rw [List.mem_singleton] at q
      subst q
      exact ⟨⟨hsp.1, by show h.step ≤ h.step + t; omega⟩, hd, .inl rfl, hx, fun e he => by cases he⟩
  · have hr : (h.rows ++ [⟨x, d, .non, h.step, none⟩])[n]? = some r := hr
    by_cases hnl : n < h.rows.length
    · rw [List.getElem?_append_left hnl] at hr
      exact I.en n r hr he
    · rw [List.getElem?_append_right (by omega)] at hr
      by_cases h0 : n - h.rows.length = 0
      · rw [h0] at hr
        cases hr
        exact absurd rfl he
      · rw [List.getElem?_eq_none_iff.mpr (by simp; omega)] at hr; cases hr
  · exact I.pw.imp_of_mem fun {i j} hi hj g => good_app (I.ol _ hi) (I.ol _ hj) g
  · exact good_app (I.ol n hn) (I.ol n hn) (I.self n hn)
  · have := I.oz
    show (h.op ++ [_]).length ≤ (h.rows ++ [_]).length
    simp; exact this
  · show 0 ≤ h.step + t ∧ h.step + t ≤ z + 40
    omega
theorem Inv.more {s : Str} {m m' : Nat} {z z' : Int} {h : Hs} (I : Inv s m z h) (hm : m ≤ m') (hz : z ≤ z') : Inv s m' z' h :=
  ⟨I.len, I.an, I.ao, I.ai, I.tn, I.tt, I.ol, Nat.le_trans I.om hm, I.rb, I.en, I.pw, I.self, I.st.mono hm, I.oz, Nat.le_trans I.tz hm, ⟨I.sp.1, Int.le_trans I.sp.2 hz⟩⟩
end W30
namespace W30
open PySem PySem.Spec L2
open WS hiding DkOk draw_ok
abbrev stA (b : Nat) (h : Hs) (st : List D) (x : Int) : List D := st.set (b + 1) (D.dct (kL (h.op ++ [(x, (h.rows.length : Int))])) (vL (h.op ++ [(x, (h.rows.length : Int))])))
abbrev stN (b : Nat) (rl : List Nat) (h : Hs) (st : List D) (x : Int) (d : D) : List D := (stA b h st x ++ [D.lst (rowL ⟨x, d, .non, h.step, none⟩)]).set b (D.lst (rl.map D.loc ++ [D.loc st.length]))
theorem HAt.new {b : Nat} {rl : List Nat} {h : Hs} {st : List D} (A : HAt b rl h st) {x : Int} (hn : x ∉ h.op.map (·.1)) (d : D) (t : Int) :
    HAt b (rl ++ [st.length]) (newR x d h t) (stN b rl h st x d) := by
  have hlt := A.lt
  have hl1 : (stA b h st x).length = st.length := List.length_set
  have g1 : ∀ (j : Nat) (v : D), j ≠ b → j ≠ b + 1 → st[j]? = some v → (stN b rl h st x d)[j]? = some v := fun j v h1 h2 e => by
    unfold stN
    rw [List.getElem?_set_ne (Ne.symm h1)]
    refine at_born ?_
    unfold stA
    rw [List.getElem?_set_ne (Ne.symm h2)]; exact e
  refine ⟨?_, ?_, g1 _ _ (by omega) (by omega) A.t, g1 _ _ (by omega) (by omega) A.o, ?_, fun i n r h1 h2 => ?_, fun n hnm => ?_, ?_⟩
  · unfold stN
    rw [List.getElem?_set_self (by rw [List.length_append, hl1]; omega), List.map_append]; rfl
  · unfold stN
    rw [List.getElem?_set_ne (by omega)]
    exact at_born (at_set A.a)
  · show (rl ++ [st.length]).length = (h.rows ++ [_]).length
    rw [List.length_append, List.length_append, A.l]; rfl
  · have h2 : (h.rows ++ [⟨x, d, .non, h.step, none⟩])[i]? = some r := h2
    by_cases hi : i < rl.length
    · rw [List.getElem?_append_left hi] at h1
      rw [List.getElem?_append_left (by rw [← A.l]; exact hi)] at h2
      have := A.g n (List.mem_of_getElem? h1)
      exact g1 n _ (by omega) (by omega) (A.w i n r h1 h2)
    · rw [List.getElem?_append_right (by omega)] at h1
      rw [List.getElem?_append_right (by rw [← A.l]; omega), ← A.l] at h2
      by_cases h0 : i - rl.length = 0
      · rw [h0] at h1 h2
        cases h1; cases h2
        unfold stN
        rw [List.getElem?_set_ne (by omega)]
        rw [List.getElem?_append_right (by rw [hl1]; exact Nat.le_refl _), hl1, Nat.sub_self]
        rfl
      · rw [List.getElem?_eq_none_iff.mpr (by simp; omega)] at h1; cases h1
  · unfold stN
    rw [List.length_set, List.length_append, hl1, List.length_singleton]
    rcases List.mem_append.mp hnm with q | q
    · have := A.g n q; omega
    · rw [List.mem_singleton] at q; omega
  · rw [List.nodup_append]
    refine ⟨A.nd, by simp, fun i hi j hj => ?_⟩
    rw [List.mem_singleton] at hj
    have := A.g i hi
    omega
section
variable {s : Str} (hs : Sp s) {H M far : Int} (hM : M ≤ 10) (hf : 1 ≤ far ∧ far ≤ 40) {b : Nat} {rl : List Nat} {h : Hs} {st : List D} (A : HAt b rl h st) {m : Nat} {z : Int} (I : Inv s m z h) {n : Nat} {k : Dk} (D0 : DkS st n k) (hn : n < 100000000) {x y : Int} (hx : 0 ≤ x ∧ x ≤ 3) (hy : 0 ≤ y ∧ y < 6) {turn wh : Sl}
include hs hM hf A I D0 hn hx hy
theorem s2_ok : ∃ h' rl' y' k' st', S2 (sl0 s H M far b h.σ h.step turn (.val (.int x)) (.val (.int y)) wh) k = some (.nx, sl0 s H M far b h'.σ h'.step turn (.val (.int x)) (.val (.int y')) wh, k') ∧ DkS st' (n + 4) k' ∧ HAt b rl' h' st' ∧ Inv s m (z + 40) h' ∧ (0 ≤ y' ∧ y' < 6) := by
  obtain ⟨c, a, u, rfl, g1, g2, g3⟩ := id D0
  unfold sl0 S2
  have la : drf 1 st (.loc (b + 1)) = .dct (kL h.op) (vL h.op) := drf_dc A.a
  have lt : drf 1 st (.loc (b + 2)) = .dct (kL h.told) (vL h.told) := drf_dc A.t
  have lr : drf 1 st (.loc b) = .lst (rl.map .loc) := drf_ls A.r
  have hlen : ((rl.map D.loc).length : Int) = (h.rows.length : Int) := by rw [List.length_map, A.l]
  have hh := @hands_ok b rl h st A I.len c a u (.val .deck) (.val (.str s)) (.val (.int H)) (.val (.int M)) (.val (.loc (b + 1))) (.val (.loc (b + 2))) (.val (.loc (b + 3))) (.val h.σ) (.val (.int h.step)) (.val (.int far)) turn (.val (.int x)) (.val (.int y)) wh
  have hc : gCountI (.lst (h.rows.map fun r => .int r.hand)) (.int x) = some (.int ((h.rows.map (·.hand)).count x : Nat)) := by
    have e : (h.rows.map fun r => D.int r.hand) = (h.rows.map (·.hand)).map D.int := by rw [List.map_map]; rfl
    rw [e]
    show (intsOf _).map _ = _
    rw [intsOf_ints]; rfl
  have stay : ∀ y' : Int, (0 ≤ y' ∧ y' < 6) → DkS st (n + 4) (some (c, a, u, st)) ∧ HAt b rl h st ∧ Inv s m (z + 40) h ∧ (0 ≤ y' ∧ y' < 6) := fun y' hy' => ⟨⟨c, a, u, rfl, g1, g2, by omega⟩, A, I.more (Nat.le_refl _) (by omega), hy'⟩
  have i1 := in_kL (neg := true) (js := h.op) (x := x)
  cases e1 : lkJ h.op x with
  | some v =>
    rw [e1] at i1
    have i1 : gInN true (.int x) (.dct (kL h.op) (vL h.op)) = some (.bl false) := i1
    have i3 := in_kL (neg := false) (js := h.op) (x := x)
    rw [e1] at i3
    have i3 : gInN false (.int x) (.dct (kL h.op) (vL h.op)) = some (.bl true) := i3
    have i2 := in_kL (neg := true) (js := h.told) (x := x)
    cases e2 : (lkJ h.told x).isSome with
    | true =>
      rw [e2] at i2
      have i2 : gInN true (.int x) (.dct (kL h.told) (vL h.told)) = some (.bl false) := i2
      refine ⟨h, rl, y, _, st, ?_, stay y hy⟩
      simp! [ap_newL, ap_listN, ap_opS, ap_unS, ap_appS, ap_setLS, ap_setDS, ap_get2S, ap_dispN, ap_newD0, ap_dictPN, ap_sortDK, ap_unp, ap_mtS, ap_dpopS, stOf_some, born_some, poke_some, lc_loc, Nat.zero_le, drf_int, drf_str, drf_non, drf_bl, drf_tup, drf_lst, drf_dct, nl_int, nl_str, nl_bl, nl_non, nl_loc, dct_of, seq_l, seq_t, isLs_l, ap_par2, ap_inS, ap_revS, lsOf_l, la, lt, i1, i2, i3]
    | false =>
      rw [e2] at i2
      have i2 : gInN true (.int x) (.dct (kL h.told) (vL h.told)) = some (.bl true) := i2
      refine ⟨h, rl, 2, _, st, ?_, stay 2 (by omega)⟩
      simp! [ap_newL, ap_listN, ap_opS, ap_unS, ap_appS, ap_setLS, ap_setDS, ap_get2S, ap_dispN, ap_newD0, ap_dictPN, ap_sortDK, ap_unp, ap_mtS, ap_dpopS, stOf_some, born_some, poke_some, lc_loc, Nat.zero_le, drf_int, drf_str, drf_non, drf_bl, drf_tup, drf_lst, drf_dct, nl_int, nl_str, nl_bl, nl_non, nl_loc, dct_of, seq_l, seq_t, isLs_l, ap_par2, ap_inS, ap_revS, lsOf_l, la, lt, i1, i2, i3]
  | none =>
    rw [e1] at i1
    have i1 : gInN true (.int x) (.dct (kL h.op) (vL h.op)) = some (.bl true) := i1
    have hxn := lkJ_key e1
    have i3 := in_kL (neg := false) (js := h.op) (x := x)
    rw [e1] at i3
    have i3 : gInN false (.int x) (.dct (kL h.op) (vL h.op)) = some (.bl false) := i3
    by_cases c1 : (h.rows.length : Int) < M
    · by_cases c2 : (((h.rows.map (·.hand)).count x : Nat) : Int) < 12
      · have oz := I.oz
        have hl10 := I.len
        have hkl : (kL h.op).length ≤ 1000000 := by unfold kL; rw [List.length_map]; omega
        have sd : setDD st (.loc (b + 1)) (.int x) (.int (h.rows.length : Int)) = some (b + 1, .dct (kL (h.op ++ [(x, (h.rows.length : Int))])) (vL (h.op ++ [(x, (h.rows.length : Int))]))) := by
          rw [setDD_ok A.a (q := .inl x) rfl hkl, put_new hxn]
        have hlt := A.lt
        have r1 : (stA b h st x)[b]? = some (.lst (rl.map D.loc)) := by
          show (st.set (b + 1) _)[b]? = _
          rw [List.getElem?_set_ne (by omega)]; exact A.r
        have dk1 : DkS (stA b h st x) n (some (c, a, u, stA b h st x)) := ⟨c, a, u, rfl, g1, g2, g3⟩
        obtain ⟨d, k2, ed, hd, dk2⟩ := deed_ok hs dk1 (by omega)
        obtain ⟨c2', a2, u2, rfl, q1, q2, q3⟩ := id dk2
        have hl1 : (stA b h st x).length = st.length := List.length_set
        have r2 : ((stA b h st x) ++ [D.lst (rowL ⟨x, d, .non, h.step, none⟩)])[b]? = some (.lst (rl.map D.loc)) := at_born r1
        have ap : mAppend (rl.map D.loc) [.loc st.length] = some (.non, rl.map D.loc ++ [.loc st.length]) := if_pos (by rw [List.length_map, A.l, sizeLine_eq]; omega)
        have dk3 : DkS (stN b rl h st x d) (n + 3) (some (c2', a2, u2, stN b rl h st x d)) := ⟨c2', a2, u2, rfl, q1, q2, q3⟩
        obtain ⟨v, k4, ev, v0, v1, dk4⟩ := draw_ok dk3 far ⟨by omega, by omega⟩ (by omega)
        have r2 : (st.set (b + 1) (D.dct (kL (h.op ++ [(x, (h.rows.length : Int))])) (vL (h.op ++ [(x, (h.rows.length : Int))]))) ++ [D.lst [.int x, d, .non, .int h.step, .non]])[b]? = some (.lst (rl.map D.loc)) := r2
        have ev : F_draw2 [.deck, .int far] (some (c2', a2, u2, (st.set (b + 1) (D.dct (kL (h.op ++ [(x, (h.rows.length : Int))])) (vL (h.op ++ [(x, (h.rows.length : Int))]))) ++ [D.lst [.int x, d, .non, .int h.step, .non]]).set b (D.lst (rl.map D.loc ++ [D.loc st.length])))) = some (.int v, k4) := ev
        have ed : F__law_deed [.deck, .str s] (some (c, a, u, st.set (b + 1) (D.dct (kL (h.op ++ [(x, (h.rows.length : Int))])) (vL (h.op ++ [(x, (h.rows.length : Int))]))))) = some (d, some (c2', a2, u2, st.set (b + 1) (D.dct (kL (h.op ++ [(x, (h.rows.length : Int))])) (vL (h.op ++ [(x, (h.rows.length : Int))]))))) := ed
        have r1 : (st.set (b + 1) (D.dct (kL (h.op ++ [(x, (h.rows.length : Int))])) (vL (h.op ++ [(x, (h.rows.length : Int))]))))[b]? = some (.lst (rl.map D.loc)) := r1
        have hl1 : (st.set (b + 1) (D.dct (kL (h.op ++ [(x, (h.rows.length : Int))])) (vL (h.op ++ [(x, (h.rows.length : Int))])))).length = st.length := hl1
        by_cases c3 : 0 < y
        · have mu : gMul (.int 1) (.int (1 + v)) = some (.int (1 * (1 + v))) := r_mulL ⟨by omega, by omega⟩
          have mu1 : (1 : Int) * (1 + v) = 1 + v := by omega
          refine ⟨newR x d h (1 + v), rl ++ [st.length], y, k4, _, ?_, dk4, A.new hxn d (1 + v), inv_new I hx hxn (by omega) hd ⟨by omega, by omega⟩, hy⟩
          simp! [ap_newL, ap_listN, ap_opS, ap_unS, ap_appS, ap_setLS, ap_setDS, ap_get2S, ap_dispN, ap_newD0, ap_dictPN, ap_sortDK, ap_unp, ap_mtS, ap_dpopS, stOf_some, born_some, poke_some, lc_loc, Nat.zero_le, drf_int, drf_str, drf_non, drf_bl, drf_tup, drf_lst, drf_dct, nl_int, nl_str, nl_bl, nl_non, nl_loc, dct_of, seq_l, seq_t, isLs_l, ap_par2, ap_inS, ap_revS, lsOf_l, la, i1, lr, List.map_cons, List.map_nil, hlen, c1, hh, hc, c2, sd, r1, lsAt_of r1, ed, hl1, small_lineE, lsAt_of r2, ap, ev, c3, mu, mu1]
          rfl
        · have mu : gMul (.int 0) (.int (1 + v)) = some (.int (0 * (1 + v))) := r_mulL ⟨by omega, by omega⟩
          have mu1 : (0 : Int) * (1 + v) = 0 := by omega
          refine ⟨newR x d h 0, rl ++ [st.length], y, k4, _, ?_, dk4, A.new hxn d 0, inv_new I hx hxn (by omega) hd ⟨by omega, by omega⟩, hy⟩
          simp! [ap_newL, ap_listN, ap_opS, ap_unS, ap_appS, ap_setLS, ap_setDS, ap_get2S, ap_dispN, ap_newD0, ap_dictPN, ap_sortDK, ap_unp, ap_mtS, ap_dpopS, stOf_some, born_some, poke_some, lc_loc, Nat.zero_le, drf_int, drf_str, drf_non, drf_bl, drf_tup, drf_lst, drf_dct, nl_int, nl_str, nl_bl, nl_non, nl_loc, dct_of, seq_l, seq_t, isLs_l, ap_par2, ap_inS, ap_revS, lsOf_l, la, i1, lr, List.map_cons, List.map_nil, hlen, c1, hh, hc, c2, sd, r1, lsAt_of r1, ed, hl1, small_lineE, lsAt_of r2, ap, ev, c3, mu, mu1]
          rfl
      · refine ⟨h, rl, y, _, st, ?_, stay y hy⟩
        simp! [ap_newL, ap_listN, ap_opS, ap_unS, ap_appS, ap_setLS, ap_setDS, ap_get2S, ap_dispN, ap_newD0, ap_dictPN, ap_sortDK, ap_unp, ap_mtS, ap_dpopS, stOf_some, born_some, poke_some, lc_loc, Nat.zero_le, drf_int, drf_str, drf_non, drf_bl, drf_tup, drf_lst, drf_dct, nl_int, nl_str, nl_bl, nl_non, nl_loc, dct_of, seq_l, seq_t, isLs_l, ap_par2, ap_inS, ap_revS, lsOf_l, la, i1, i3, lr, List.map_cons, List.map_nil, hlen, c1, hh, hc, c2]
    · refine ⟨h, rl, y, _, st, ?_, stay y hy⟩
      simp! [ap_newL, ap_listN, ap_opS, ap_unS, ap_appS, ap_setLS, ap_setDS, ap_get2S, ap_dispN, ap_newD0, ap_dictPN, ap_sortDK, ap_unp, ap_mtS, ap_dpopS, stOf_some, born_some, poke_some, lc_loc, Nat.zero_le, drf_int, drf_str, drf_non, drf_bl, drf_tup, drf_lst, drf_dct, nl_int, nl_str, nl_bl, nl_non, nl_loc, dct_of, seq_l, seq_t, isLs_l, ap_par2, ap_inS, ap_revS, lsOf_l, la, i1, i3, lr, List.map_cons, List.map_nil, hlen, c1]
end
end W30
namespace W30
open PySem PySem.Spec L2
open WS hiding DkOk draw_ok
def holdH (x : Int) (n : Nat) (t : Int) (σ : D) (h : Hs) : Hs := { h with told := h.told ++ [(x, t)], ord := h.ord ++ [n], σ := σ }
theorem inv_hold {s : Str} {m : Nat} {z : Int} {h : Hs} (I : Inv s m z h) {x : Int} {n : Nat} (ho : (x, (n : Int)) ∈ h.op) (hn : x ∉ h.told.map (·.1)) {t : Int} (ht : -1000000 ≤ t ∧ t ≤ 1000000) {σ : D} (hσ : St (m + 1) s σ) : Inv s (m + 1) z (holdH x n t σ h) := by
  obtain ⟨n', r, e1, e2, e3⟩ := I.ao _ ho
  have e1 : (n : Int) = (n' : Int) := e1
  have e1 : n = n' := by omega
  subst e1
  have hgn : ∀ a, Good h.rows a n := fun a ra rb e h1 h2 h3 => by
    rw [e2] at h2; cases h2
    rw [e3] at h3; cases h3
  have hnl := (List.getElem?_eq_some_iff.mp e2).1
  refine ⟨I.len, I.an, I.ao, I.ai, ?_, fun p hp => ?_, fun i hi => ?_, ?_, I.rb, fun i r hr he => List.mem_append_left _ (I.en i r hr he), ?_, fun i hi => ?_, hσ, I.oz, ?_, I.sp⟩
  · show ((h.told ++ [(x, t)]).map (·.1)).Nodup
    rw [List.map_append, List.nodup_append]
    refine ⟨I.tn, by simp, fun i hi j hj => ?_⟩
    rw [List.map_cons, List.map_nil, List.mem_singleton] at hj
    subst hj
    exact fun e => hn (e ▸ hi)
  · rcases List.mem_append.mp hp with q | q
    · obtain ⟨⟨i, h1, h2⟩, h3⟩ := I.tt p q
      exact ⟨⟨i, h1, List.mem_append_left _ h2⟩, h3⟩
    · rw [List.mem_singleton] at q
      subst q
      exact ⟨⟨n, ho, List.mem_append_right _ (by simp)⟩, ht⟩
  · rcases List.mem_append.mp hi with q | q
    · exact I.ol i q
    · rw [List.mem_singleton] at q
      subst q; exact hnl
  · have := I.om
    show (h.ord ++ [n]).length ≤ m + 1
    rw [List.length_append]; simpa using this
  · show (h.ord ++ [n]).Pairwise (Good h.rows)
    rw [List.pairwise_append]
    refine ⟨I.pw, by simp, fun i _ j hj => ?_⟩
    rw [List.mem_singleton] at hj
    subst hj
    exact hgn i
  · rcases List.mem_append.mp hi with q | q
    · exact I.self i q
    · rw [List.mem_singleton] at q
      subst q; exact hgn _
  · have := I.tz
    show (h.told ++ [(x, t)]).length ≤ m + 1
    rw [List.length_append]; simpa using this
theorem ap_asgS {g : TgS} {f : E} {ρ : List Sl} {k : Dk} : sAsgS g f ρ k = (f ρ k).bnd fun x => (g x.1 x.2.1 x.2.2).mpd fun y => (.nx, y.1, y.2) := nrfl rfl
theorem kds_ok {d σ : D} {s0 s1 s2 s3 s4 s5 s7 s8 s9 s10 s11 s13 s14 s15 : Sl} {T : Nat} {x : Int} {k : Dk} : kTup (kCons (kDS (eVar 6) (eVar 12)) (kCons (kSet 8) kNil)) (.tup [d, σ]) [s0, s1, s2, s3, s4, s5, .val (.loc T), s7, s8, s9, s10, s11, .val (.int x), s13, s14, s15] k = (setDD (stOf k) (.loc T) (.int x) d).mpd fun z => ([s0, s1, s2, s3, s4, s5, .val (.loc T), s7, .val σ, s9, s10, s11, .val (.int x), s13, s14, s15], poke z.1 z.2 k) := by
  show ((kDS (eVar 6) (eVar 12) d [s0, s1, s2, s3, s4, s5, .val (.loc T), s7, s8, s9, s10, s11, .val (.int x), s13, s14, s15] k).bind fun y => kCons (kSet 8) kNil [σ] y.1 y.2) = _
  have e : kDS (eVar 6) (eVar 12) d [s0, s1, s2, s3, s4, s5, .val (.loc T), s7, s8, s9, s10, s11, .val (.int x), s13, s14, s15] k = (setDD (stOf k) (.loc T) (.int x) d).map fun z => ([s0, s1, s2, s3, s4, s5, .val (.loc T), s7, s8, s9, s10, s11, .val (.int x), s13, s14, s15], poke z.1 z.2 k) := rfl
  rw [e]
  cases setDD (stOf k) (.loc T) (.int x) d with
  | none => rfl
  | some z => rfl
def T3 : SS := sSeq (sAsgS (kTup (kCons (kDS (eVar 6) (eVar 12)) (kCons (kSet 8) (kNil)))) (eIf (eOp gEqE (eCallF 2 WS.F_draw2 (aCons (eVar 0) (aCons (eC (.int 8)) (aNil)))) (eC (.int 0))) (eOp gIx (eVar 14) (eUn gNeg (eC (.int 1)))) (eOp gIx (eVar 14) (eC (.int 0)))))
 (sSeq (sDrop (eMtS mAppend (eVar 7) (aCons (eOpS 1 gGet (eVar 5) (eVar 12)) (aNil))))
 (sSeq (sAsg (gSet 13) (eOp gIx (eApp gLstD (aCons (eVar 13) (aCons (eC (.int 6)) (aNil)))) (eApp gInt (aCons (eOp gEqE (eVar 13) (eC (.int 2))) (aNil)))))
 (sNil)))
theorem S3_is : S3 = sIf (eAnd (eInS false (eVar 12) (eVar 5)) (eAnd (eInS true (eVar 12) (eVar 6)) (eOp gIn (eVar 13) (eApp gTupD (aCons (eC (.int 0)) (aCons (eC (.int 2)) (aNil))))))) (sSeq (sAsg (gSet 14) (eCallF 3 W30.F__law_ways (aCons (eVar 1) (aCons (eVar 8) (aCons (eOpS 1 gIx (eOpS 1 gIx (eVar 4) (eOpS 1 gGet (eVar 5) (eVar 12))) (eC (.int 1))) (aNil)))))) T3) (sNil) := rfl
theorem Dd.nl {s : Str} {d : D} (h : Dd s d) : nl d = true := by cases h <;> rfl
theorem way_in {y : Int} (h : 0 ≤ y ∧ y < 6) : gIn (.int y) (.tup [.int 0, .int 2]) = some (.bl (decide (y = 0) || decide (y = 2))) := by
  have : y = 0 ∨ y = 1 ∨ y = 2 ∨ y = 3 ∨ y = 4 ∨ y = 5 := by omega
  rcases this with rfl | rfl | rfl | rfl | rfl | rfl <;> kernel_rfl!
section
variable {b : Nat} {rl : List Nat} {h : Hs} {st : List D} (A : HAt b rl h st)
include A
def stH (b : Nat) (h : Hs) (st : List D) (x : Int) (n : Nat) (t : Int) : List D := (st.set (b + 2) (D.dct (kL (h.told ++ [(x, t)])) (vL (h.told ++ [(x, t)])))).set (b + 3) (D.lst (h.ord.map nD ++ [nD n]))
theorem HAt.hold (x : Int) (n : Nat) (t : Int) (σ : D) : HAt b rl (holdH x n t σ h) (stH b h st x n t) := by
  have hlt := A.lt
  have g1 : ∀ (j : Nat) (v : D), j ≠ b + 2 → j ≠ b + 3 → st[j]? = some v → (stH b h st x n t)[j]? = some v := fun j v h1 h2 e => by
    unfold stH
    rw [List.getElem?_set_ne (Ne.symm h2), List.getElem?_set_ne (Ne.symm h1)]; exact e
  refine ⟨g1 _ _ (by omega) (by omega) A.r, g1 _ _ (by omega) (by omega) A.a, ?_, ?_, A.l, fun i n r h1 h2 => ?_, fun n hn => ?_, A.nd⟩
  · unfold stH
    rw [List.getElem?_set_ne (by omega)]
    exact at_set A.t
  · unfold stH
    rw [List.getElem?_set_self (by rw [List.length_set]; omega)]
    show _ = some (D.lst ((h.ord ++ [_]).map nD))
    rw [List.map_append]; rfl
  · have := A.g n (List.mem_of_getElem? h1)
    exact g1 n _ (by omega) (by omega) (A.w i n r h1 h2)
  · unfold stH
    rw [List.length_set, List.length_set]
    exact A.g n hn
end
section
variable {s : Str} {H M far : Int} {b : Nat} {rl : List Nat} {h : Hs} {st : List D} (A : HAt b rl h st) {m : Nat} (hm : m ≤ 100) {z : Int} (I : Inv s m z h) {n : Nat} {k : Dk} (D0 : DkS st n k) (hn : n < 100000000) {x y : Int} (hx : 0 ≤ x ∧ x ≤ 3) (hy : 0 ≤ y ∧ y < 6) {turn wh : Sl}
include A hm I D0 hn hx hy
theorem s3_ok : ∃ h' y' wh' k' st', S3 (sl0 s H M far b h.σ h.step turn (.val (.int x)) (.val (.int y)) wh) k = some (.nx, sl0 s H M far b h'.σ h'.step turn (.val (.int x)) (.val (.int y')) wh', k') ∧ DkS st' (n + 1) k' ∧ HAt b rl h' st' ∧ Inv s (m + 1) z h' := by
  obtain ⟨c, a, u, rfl, g1, g2, g3⟩ := id D0
  unfold sl0
  rw [S3_is]
  have la : drf 1 st (.loc (b + 1)) = .dct (kL h.op) (vL h.op) := drf_dc A.a
  have lt : drf 1 st (.loc (b + 2)) = .dct (kL h.told) (vL h.told) := drf_dc A.t
  have lr : drf 1 st (.loc b) = .lst (rl.map .loc) := drf_ls A.r
  have stay : DkS st (n + 1) (some (c, a, u, st)) ∧ HAt b rl h st ∧ Inv s (m + 1) z h := ⟨⟨c, a, u, rfl, g1, g2, by omega⟩, A, I.more (by omega) (Int.le_refl _)⟩
  have i1 := in_kL (neg := false) (js := h.op) (x := x)
  cases e1 : lkJ h.op x with
  | none =>
    rw [e1] at i1
    have i1 : gInN false (.int x) (.dct (kL h.op) (vL h.op)) = some (.bl false) := i1
    refine ⟨h, y, wh, _, st, ?_, stay⟩
    simp! [ap_newL, ap_listN, ap_opS, ap_unS, ap_appS, ap_setLS, ap_setDS, ap_get2S, ap_dispN, ap_newD0, ap_dictPN, ap_sortDK, ap_unp, ap_mtS, ap_dpopS, stOf_some, born_some, poke_some, lc_loc, Nat.zero_le, drf_int, drf_str, drf_non, drf_bl, drf_tup, drf_lst, drf_dct, nl_int, nl_str, nl_bl, nl_non, nl_loc, dct_of, seq_l, seq_t, isLs_l, ap_par2, ap_inS, ap_revS, lsOf_l, la, i1]
  | some v =>
    rw [e1] at i1
    have p1 : gInN false (.int x) (.dct (kL h.op) (vL h.op)) = some (.bl true) := i1
    have i2 := in_kL (neg := true) (js := h.told) (x := x)
    cases e2 : lkJ h.told x with
    | some w =>
      rw [e2] at i2
      have p2 : gInN true (.int x) (.dct (kL h.told) (vL h.told)) = some (.bl false) := i2
      refine ⟨h, y, wh, _, st, ?_, stay⟩
      simp! [ap_newL, ap_listN, ap_opS, ap_unS, ap_appS, ap_setLS, ap_setDS, ap_get2S, ap_dispN, ap_newD0, ap_dictPN, ap_sortDK, ap_unp, ap_mtS, ap_dpopS, stOf_some, born_some, poke_some, lc_loc, Nat.zero_le, drf_int, drf_str, drf_non, drf_bl, drf_tup, drf_lst, drf_dct, nl_int, nl_str, nl_bl, nl_non, nl_loc, dct_of, seq_l, seq_t, isLs_l, ap_par2, ap_inS, ap_revS, lsOf_l, la, lt, p1, p2]
    | none =>
      rw [e2] at i2
      have p2 : gInN true (.int x) (.dct (kL h.told) (vL h.told)) = some (.bl true) := i2
      have wi := way_in hy
      by_cases cw : (decide (y = 0) || decide (y = 2)) = true
      · rw [cw] at wi
        have hmem := lkJ_mem e1
        obtain ⟨i, r, rfl, hr, hre⟩ := I.ao _ hmem
        have gk := get_kL e1
        obtain ⟨l, hl1, hl2, hl3⟩ := A.loc hr
        have il : gIx (.lst (rl.map D.loc)) (.int (i : Int)) = some (.loc l) := by rw [WS.ix_lst, List.getElem?_map, hl1]; rfl
        have lrow := drf_ls hl2
        have id1 : gIx (.lst (rowL r)) (.int 1) = some r.deed := WS.ix_lst (xs := rowL r) (n := 1)
        obtain ⟨_, hdd, _⟩ := I.rb r (List.mem_of_getElem? hr)
        have nld : (nl r.deed = true) = True := eq_true hdd.nl
        obtain ⟨ws, ex, ew, hw⟩ := ways_ok (m := m) (by omega) (c := c) (a := a) (u := u) (st := st) I.st hdd
        have dk1 : DkS (st ++ ex) n (some (c, a, u, st ++ ex)) := ⟨c, a, u, rfl, g1, g2, g3⟩
        obtain ⟨v, k2, ev, v0, v1, dk2⟩ := draw_ok dk1 8 ⟨by omega, by omega⟩ (by omega)
        obtain ⟨c2, a2, u2, rfl, q1, q2, q3⟩ := id dk2
        have B := A.grow ex
        have hxn := lkJ_key e2
        have tz := I.tz
        have hkl : (kL h.told).length ≤ 1000000 := by unfold kL; rw [List.length_map]; omega
        have om := I.om
        have hlt := B.lt
        have la2 : drf 1 (st ++ ex) (.loc (b + 1)) = .dct (kL h.op) (vL h.op) := drf_dc B.a
        -- what is chosen
        have key : ∀ (t : Int) (σ : D), -1000000 ≤ t ∧ t ≤ 1000000 → St (m + 1) s σ → (eIf (eOp gEqE (eCallF 2 WS.F_draw2 (aCons (eVar 0) (aCons (eC (.int 8)) (aNil)))) (eC (.int 0))) (eOp gIx (eVar 14) (eUn gNeg (eC (.int 1)))) (eOp gIx (eVar 14) (eC (.int 0)))) [.val .deck, .val (.str s), .val (.int H), .val (.int M), .val (.loc b), .val (.loc (b + 1)), .val (.loc (b + 2)), .val (.loc (b + 3)), .val h.σ, .val (.int h.step), .val (.int far), turn, .val (.int x), .val (.int y), .val (.lst ws), .no] (some (c, a, u, st ++ ex)) = some (.tup [.int t, σ], [.val .deck, .val (.str s), .val (.int H), .val (.int M), .val (.loc b), .val (.loc (b + 1)), .val (.loc (b + 2)), .val (.loc (b + 3)), .val h.σ, .val (.int h.step), .val (.int far), turn, .val (.int x), .val (.int y), .val (.lst ws), .no], some (c2, a2, u2, st ++ ex)) →
            ∃ h' y' wh' k' st', T3 [.val .deck, .val (.str s), .val (.int H), .val (.int M), .val (.loc b), .val (.loc (b + 1)), .val (.loc (b + 2)), .val (.loc (b + 3)), .val h.σ, .val (.int h.step), .val (.int far), turn, .val (.int x), .val (.int y), .val (.lst ws), .no] (some (c, a, u, st ++ ex)) = some (.nx, [.val .deck, .val (.str s), .val (.int H), .val (.int M), .val (.loc b), .val (.loc (b + 1)), .val (.loc (b + 2)), .val (.loc (b + 3)), .val h'.σ, .val (.int h'.step), .val (.int far), turn, .val (.int x), .val (.int y'), wh', .no], k') ∧ DkS st' (n + 1) k' ∧ HAt b rl h' st' ∧ Inv s (m + 1) z h' := fun t σ ht hσ ec => by
          have sd : setDD (st ++ ex) (.loc (b + 2)) (.int x) (.int t) = some (b + 2, .dct (kL (h.told ++ [(x, t)])) (vL (h.told ++ [(x, t)]))) := by
            rw [setDD_ok B.t (q := .inl x) rfl hkl, put_new hxn]
          have o1 : ((st ++ ex).set (b + 2) (D.dct (kL (h.told ++ [(x, t)])) (vL (h.told ++ [(x, t)]))))[b + 3]? = some (.lst (h.ord.map nD)) := by
            rw [List.getElem?_set_ne (by omega)]; exact B.o
          have a1 : drf 1 ((st ++ ex).set (b + 2) (D.dct (kL (h.told ++ [(x, t)])) (vL (h.told ++ [(x, t)])))) (.loc (b + 1)) = .dct (kL h.op) (vL h.op) := drf_dc (by rw [List.getElem?_set_ne (by omega)]; exact B.a)
          have ap : mAppend (h.ord.map nD) [.int (i : Int)] = some (.non, h.ord.map nD ++ [nD i]) := if_pos (by rw [List.length_map, sizeLine_eq]; omega)
          unfold T3
          rw [ap_sSeq]
          rw [ap_asgS, ec]
          by_cases y2 : y = 2
          · refine ⟨holdH x i t σ h, 6, .val (.lst ws), some (c2, a2, u2, stH b h (st ++ ex) x i t), stH b h (st ++ ex) x i t, ?_, ⟨c2, a2, u2, rfl, q1, q2, by omega⟩, B.hold x i t σ, inv_hold I hmem hxn ht hσ⟩
            have wy : gIx (.lst [.int 2, .int 6]) (.int 1) = some (.int 6) := rfl
            simp! [ap_newL, ap_listN, ap_opS, ap_unS, ap_appS, ap_setLS, ap_setDS, ap_get2S, ap_dispN, ap_newD0, ap_dictPN, ap_sortDK, ap_unp, ap_mtS, ap_dpopS, stOf_some, born_some, poke_some, lc_loc, Nat.zero_le, drf_int, drf_str, drf_non, drf_bl, drf_tup, drf_lst, drf_dct, nl_int, nl_str, nl_bl, nl_non, nl_loc, dct_of, seq_l, seq_t, isLs_l, ap_par2, ap_inS, ap_revS, lsOf_l, kds_ok, sd, lsAt_of o1, a1, gk, ap, y2, wy]
            rfl
          · refine ⟨holdH x i t σ h, y, .val (.lst ws), some (c2, a2, u2, stH b h (st ++ ex) x i t), stH b h (st ++ ex) x i t, ?_, ⟨c2, a2, u2, rfl, q1, q2, by omega⟩, B.hold x i t σ, inv_hold I hmem hxn ht hσ⟩
            have wy : gIx (.lst [.int y, .int 6]) (.int 0) = some (.int y) := rfl
            simp! [ap_newL, ap_listN, ap_opS, ap_unS, ap_appS, ap_setLS, ap_setDS, ap_get2S, ap_dispN, ap_newD0, ap_dictPN, ap_sortDK, ap_unp, ap_mtS, ap_dpopS, stOf_some, born_some, poke_some, lc_loc, Nat.zero_le, drf_int, drf_str, drf_non, drf_bl, drf_tup, drf_lst, drf_dct, nl_int, nl_str, nl_bl, nl_non, nl_loc, dct_of, seq_l, seq_t, isLs_l, ap_par2, ap_inS, ap_revS, lsOf_l, kds_ok, sd, lsAt_of o1, a1, gk, ap, y2, wy]
            rfl
        have fin : ∃ h' y' wh' k' st', T3 [.val .deck, .val (.str s), .val (.int H), .val (.int M), .val (.loc b), .val (.loc (b + 1)), .val (.loc (b + 2)), .val (.loc (b + 3)), .val h.σ, .val (.int h.step), .val (.int far), turn, .val (.int x), .val (.int y), .val (.lst ws), .no] (some (c, a, u, st ++ ex)) = some (.nx, [.val .deck, .val (.str s), .val (.int H), .val (.int M), .val (.loc b), .val (.loc (b + 1)), .val (.loc (b + 2)), .val (.loc (b + 3)), .val h'.σ, .val (.int h'.step), .val (.int far), turn, .val (.int x), .val (.int y'), wh', .no], k') ∧ DkS st' (n + 1) k' ∧ HAt b rl h' st' ∧ Inv s (m + 1) z h' := by
          cases hw with
          | @one t σ ht hσ =>
            refine key t σ ht hσ ?_
            have j1 : gIx (.lst [.tup [.int t, σ]]) (.int (-1)) = some (.tup [.int t, σ]) := rfl
            have j2 : gIx (.lst [.tup [.int t, σ]]) (.int 0) = some (.tup [.int t, σ]) := rfl
            by_cases v0 : v = 0
            · simp! [ap_newL, ap_listN, ap_opS, ap_unS, ap_appS, ap_setLS, ap_setDS, ap_get2S, ap_dispN, ap_newD0, ap_dictPN, ap_sortDK, ap_unp, ap_mtS, ap_dpopS, stOf_some, born_some, poke_some, lc_loc, Nat.zero_le, drf_int, drf_str, drf_non, drf_bl, drf_tup, drf_lst, drf_dct, nl_int, nl_str, nl_bl, nl_non, nl_loc, dct_of, seq_l, seq_t, isLs_l, ap_par2, ap_inS, ap_revS, lsOf_l, ev, v0, j1]
            · simp! [ap_newL, ap_listN, ap_opS, ap_unS, ap_appS, ap_setLS, ap_setDS, ap_get2S, ap_dispN, ap_newD0, ap_dictPN, ap_sortDK, ap_unp, ap_mtS, ap_dpopS, stOf_some, born_some, poke_some, lc_loc, Nat.zero_le, drf_int, drf_str, drf_non, drf_bl, drf_tup, drf_lst, drf_dct, nl_int, nl_str, nl_bl, nl_non, nl_loc, dct_of, seq_l, seq_t, isLs_l, ap_par2, ap_inS, ap_revS, lsOf_l, ev, v0, j2]
          | @two t u' σ τ ht hσ hu hτ =>
            have j1 : gIx (.lst [.tup [.int t, σ], .tup [.int u', τ]]) (.int (-1)) = some (.tup [.int u', τ]) := rfl
            have j2 : gIx (.lst [.tup [.int t, σ], .tup [.int u', τ]]) (.int 0) = some (.tup [.int t, σ]) := rfl
            by_cases v0 : v = 0
            · refine key u' τ hu hτ ?_
              simp! [ap_newL, ap_listN, ap_opS, ap_unS, ap_appS, ap_setLS, ap_setDS, ap_get2S, ap_dispN, ap_newD0, ap_dictPN, ap_sortDK, ap_unp, ap_mtS, ap_dpopS, stOf_some, born_some, poke_some, lc_loc, Nat.zero_le, drf_int, drf_str, drf_non, drf_bl, drf_tup, drf_lst, drf_dct, nl_int, nl_str, nl_bl, nl_non, nl_loc, dct_of, seq_l, seq_t, isLs_l, ap_par2, ap_inS, ap_revS, lsOf_l, ev, v0, j1]
            · refine key t σ ht hσ ?_
              simp! [ap_newL, ap_listN, ap_opS, ap_unS, ap_appS, ap_setLS, ap_setDS, ap_get2S, ap_dispN, ap_newD0, ap_dictPN, ap_sortDK, ap_unp, ap_mtS, ap_dpopS, stOf_some, born_some, poke_some, lc_loc, Nat.zero_le, drf_int, drf_str, drf_non, drf_bl, drf_tup, drf_lst, drf_dct, nl_int, nl_str, nl_bl, nl_non, nl_loc, dct_of, seq_l, seq_t, isLs_l, ap_par2, ap_inS, ap_revS, lsOf_l, ev, v0, j2]
        obtain ⟨h', y', wh', k', st', f1, f2⟩ := fin
        refine ⟨h', y', wh', k', st', ?_, f2⟩
        rw [ap_sIf]
        rw [← f1]
        simp! [ap_newL, ap_listN, ap_opS, ap_unS, ap_appS, ap_setLS, ap_setDS, ap_get2S, ap_dispN, ap_newD0, ap_dictPN, ap_sortDK, ap_unp, ap_mtS, ap_dpopS, stOf_some, born_some, poke_some, lc_loc, Nat.zero_le, drf_int, drf_str, drf_non, drf_bl, drf_tup, drf_lst, drf_dct, nl_int, nl_str, nl_bl, nl_non, nl_loc, dct_of, seq_l, seq_t, isLs_l, ap_par2, ap_inS, ap_revS, lsOf_l, la, lt, lr, p1, p2, wi, gk, il, lrow, id1, nld, ew]
      · have cw' : (decide (y = 0) || decide (y = 2)) = false := by simpa using cw
        rw [cw'] at wi
        refine ⟨h, y, wh, _, st, ?_, stay⟩
        simp! [ap_newL, ap_listN, ap_opS, ap_unS, ap_appS, ap_setLS, ap_setDS, ap_get2S, ap_dispN, ap_newD0, ap_dictPN, ap_sortDK, ap_unp, ap_mtS, ap_dpopS, stOf_some, born_some, poke_some, lc_loc, Nat.zero_le, drf_int, drf_str, drf_non, drf_bl, drf_tup, drf_lst, drf_dct, nl_int, nl_str, nl_bl, nl_non, nl_loc, dct_of, seq_l, seq_t, isLs_l, ap_par2, ap_inS, ap_revS, lsOf_l, la, lt, p1, p2, wi]
end
end W30
namespace W30
open PySem PySem.Spec L2
open WS hiding DkOk draw_ok
def endR (r : Row) (v e : Int) : Row := ⟨r.hand, r.deed, .int v, r.b, some e⟩
def endH (x : Int) (n : Nat) (r : Row) (v w : Int) (h : Hs) : Hs := { h with rows := h.rows.set n (endR r v h.step), op := restP h.op x, told := restP h.told x, step := h.step + 1 + w }
theorem snd_inj : ∀ {js : List (Int × Int)}, (js.map (·.2)).Nodup → ∀ {p q : Int × Int}, p ∈ js → q ∈ js → p.2 = q.2 → p = q
  | [], _, p, q, h, _, _ => by cases h
  | z :: js, hn, p, q, hp, hq, e => by
    rw [List.map_cons, List.nodup_cons] at hn
    rcases List.mem_cons.mp hp with h1 | h1 <;> rcases List.mem_cons.mp hq with h2 | h2
    · rw [h1, h2]
    · exact absurd (List.mem_map.mpr ⟨q, h2, by rw [← e, h1]⟩) hn.1
    · exact absurd (List.mem_map.mpr ⟨p, h1, by rw [e, h2]⟩) hn.1
    · exact snd_inj hn.2 h1 h2 e
theorem rest_mem {js : List (Int × Int)} {x : Int} {p : Int × Int} : p ∈ restP js x ↔ p ∈ js ∧ p.1 ≠ x := by
  unfold restP
  rw [List.mem_filter]
  simp
theorem inv_end {s : Str} {m : Nat} {z : Int} {h : Hs} (I : Inv s m z h) (hz : z ≤ 5000) {x : Int} {n : Nat} {r : Row} (ho : (x, (n : Int)) ∈ h.op) (hr : h.rows[n]? = some r) {v : Int} (ht : (x, v) ∈ h.told) {w : Int} (hw : 0 ≤ w ∧ w < 40) : Inv s m (z + 40) (endH x n r v w h) := by
  have hnl := (List.getElem?_eq_some_iff.mp hr).1
  have hsp := I.sp
  obtain ⟨⟨n', h1, hno⟩, hv⟩ := I.tt _ ht
  have hnn : n = n' := by
    have e1 := lkJ_some I.an ho
    have e2 := lkJ_some I.an h1
    have e1 : lkJ h.op x = some (n : Int) := e1
    have e2 : lkJ h.op x = some (n' : Int) := e2
    rw [e1] at e2
    injection e2 with e2
    omega
  subst hnn
  have hr0 := I.rb r (List.mem_of_getElem? hr)
  -- rows behind
  have at' : ∀ (i : Nat) (q : Row), (h.rows.set n (endR r v h.step))[i]? = some q → ∃ q0, h.rows[i]? = some q0 ∧ q0.b = q.b ∧ (i ≠ n → q0 = q) ∧ (i = n → q.e = some h.step) := fun i q hq => by
    by_cases hi : i = n
    · subst hi
      rw [List.getElem?_set_self hnl] at hq
      cases hq
      exact ⟨r, hr, rfl, fun z => absurd rfl z, fun _ => rfl⟩
    · rw [List.getElem?_set_ne (Ne.symm hi)] at hq
      exact ⟨q, hq, rfl, fun _ => rfl, fun z => absurd z hi⟩
  have good : ∀ a b, Good h.rows a b → Good (h.rows.set n (endR r v h.step)) a b := fun a b g ra rb e q1 q2 q3 => by
    obtain ⟨ra0, a1, a2, _, _⟩ := at' a ra q1
    obtain ⟨rb0, b1, b2, b3, b4⟩ := at' b rb q2
    by_cases hb : b = n
    · rw [b4 hb] at q3
      injection q3 with q3
      have := (I.rb ra0 (List.mem_of_getElem? a1)).1
      omega
    · rw [← b3 hb] at q3
      have := g ra0 rb0 e a1 b1 q3
      omega
  refine ⟨?_, I.an.sublist (List.filter_sublist.map _), fun p hp => ?_, I.ai.sublist (List.filter_sublist.map _), I.tn.sublist (List.filter_sublist.map _), fun p hp => ?_, fun i hi => ?_, I.om, fun q hq => ?_, fun i q hq he => ?_, I.pw.imp fun {a b} g => good a b g, fun i hi => good i i (I.self i hi), I.st, ?_, Nat.le_trans (List.length_filter_le _ _) I.tz, ?_⟩
  · show (h.rows.set n _).length ≤ 10
    rw [List.length_set]; exact I.len
  · obtain ⟨hp1, hp2⟩ := rest_mem.mp hp
    obtain ⟨i, q, e1, e2, e3⟩ := I.ao p hp1
    have hin : i ≠ n := fun e => by
      subst e
      have := snd_inj I.ai hp1 ho e1
      exact hp2 (by rw [this])
    refine ⟨i, q, e1, ?_, e3⟩
    show (h.rows.set n _)[i]? = some q
    rw [List.getElem?_set_ne (Ne.symm hin)]; exact e2
  · obtain ⟨hp1, hp2⟩ := rest_mem.mp hp
    obtain ⟨⟨i, h1, h2⟩, h3⟩ := I.tt p hp1
    exact ⟨⟨i, rest_mem.mpr ⟨h1, hp2⟩, h2⟩, h3⟩
  · show i < (h.rows.set n _).length
    rw [List.length_set]; exact I.ol i hi
  · rcases List.mem_or_eq_of_mem_set hq with q1 | q1
    · obtain ⟨h1, h2, h3, h4, h5⟩ := I.rb q q1
      exact ⟨⟨h1.1, by show q.b ≤ h.step + 1 + w; omega⟩, h2, h3, h4, h5⟩
    · subst q1
      obtain ⟨h1, h2, h3, h4, h5⟩ := hr0
      exact ⟨⟨h1.1, by show r.b ≤ h.step + 1 + w; omega⟩, h2, .inr ⟨v, rfl, hv⟩, h4, fun e he => by
        have he : some h.step = some e := he
        injection he with he
        omega⟩
  · by_cases hi : i = n
    · rw [hi]; exact hno
    · obtain ⟨q0, b1, b2, b3, _⟩ := at' i q hq
      rw [← b3 hi] at he
      exact I.en i q0 b1 he
  · show (restP h.op x).length ≤ (h.rows.set n _).length
    rw [List.length_set]
    exact Nat.le_trans (List.length_filter_le _ _) I.oz
  · show 0 ≤ h.step + 1 + w ∧ h.step + 1 + w ≤ z + 40
    omega
abbrev stE (b l : Nat) (h : Hs) (st : List D) (x v : Int) (r : Row) : List D := ((st.set (b + 2) (D.dct (kL (restP h.told x)) (vL (restP h.told x)))).set l (D.lst (rowL (endR r v h.step)))).set (b + 1) (D.dct (kL (restP h.op x)) (vL (restP h.op x)))
theorem HAt.fin {b : Nat} {rl : List Nat} {h : Hs} {st : List D} (A : HAt b rl h st) {n l : Nat} {r : Row} (hl : rl[n]? = some l) (hr : h.rows[n]? = some r) (x v w : Int) : HAt b rl (endH x n r v w h) (stE b l h st x v r) := by
  have hlt := A.lt
  have hlg := A.g l (List.mem_of_getElem? hl)
  have hnl := (List.getElem?_eq_some_iff.mp hr).1
  have g1 : ∀ (j : Nat) (u : D), j ≠ b + 1 → j ≠ b + 2 → j ≠ l → st[j]? = some u → (stE b l h st x v r)[j]? = some u := fun j u h1 h2 h3 e => by
    rw [List.getElem?_set_ne (Ne.symm h1), List.getElem?_set_ne (Ne.symm h3), List.getElem?_set_ne (Ne.symm h2)]; exact e
  refine ⟨g1 _ _ (by omega) (by omega) (by omega) A.r, ?_, ?_, g1 _ _ (by omega) (by omega) (by omega) A.o, ?_, fun i m q h1 h2 => ?_, fun m hm => ?_, A.nd⟩
  · rw [List.getElem?_set_self (by rw [List.length_set, List.length_set]; omega)]; rfl
  · rw [List.getElem?_set_ne (by omega), List.getElem?_set_ne (by omega)]
    exact at_set A.t
  · show rl.length = (h.rows.set n _).length
    rw [List.length_set]; exact A.l
  · have h2 : (h.rows.set n (endR r v h.step))[i]? = some q := h2
    have hmg := A.g m (List.mem_of_getElem? h1)
    by_cases hi : i = n
    · subst hi
      rw [hl] at h1
      cases h1
      rw [List.getElem?_set_self hnl] at h2
      cases h2
      rw [List.getElem?_set_ne (by omega), List.getElem?_set_self (by rw [List.length_set]; omega)]
    · rw [List.getElem?_set_ne (Ne.symm hi)] at h2
      have hml : m ≠ l := fun e => by
        subst e
        have q1 := (List.getElem?_eq_some_iff.mp h1)
        have q2 := (List.getElem?_eq_some_iff.mp hl)
        exact hi ((List.getElem_inj (h₀ := q1.1) (h₁ := q2.1) A.nd).mp (q1.2.trans q2.2.symm))
      exact g1 m _ (by omega) (by omega) hml (A.w i m q h1 h2)
  · rw [List.length_set, List.length_set, List.length_set]
    exact A.g m hm
theorem slS_ok {fv fo fl : E} {ρ ρ1 ρ2 ρ3 : List Sl} {k k1 k2 k3 : Dk} {n : Nat} {xs ys : List D} (h1 : fv ρ k = some (.lst ys, ρ1, k1)) (h2 : fo ρ1 k1 = some (.loc n, ρ2, k2)) (h3 : fl ρ2 k2 = some (.int 2, ρ3, k3)) (h4 : (stOf k3)[n]? = some (.lst xs)) (h5 : 2 ≤ xs.length) (h6 : xs.length + ys.length ≤ 1000) : sSlS fv fo fl ρ k = some (.nx, ρ3, poke n (.lst (xs.take 2 ++ ys)) k3) := by
  unfold sSlS
  rw [h1, Option.bind_some, h2, Option.bind_some, h3, Option.bind_some]
  dsimp only
  rw [h4]
  dsimp only
  rw [if_pos ⟨by omega, by omega, by rw [sizeLine_eq]; omega⟩]
  rfl
section
variable {s : Str} {H M far : Int} (hf : 1 ≤ far ∧ far ≤ 40) {b : Nat} {rl : List Nat} {h : Hs} {st : List D} (A : HAt b rl h st) {m : Nat} {z : Int} (hz : z ≤ 5000) (I : Inv s m z h) {n : Nat} {k : Dk} (D0 : DkS st n k) (hn : n < 100000000) {x y : Int} {turn wh : Sl}
include hf A hz I D0 hn
theorem s4_ok : ∃ h' k' st', S4 (sl0 s H M far b h.σ h.step turn (.val (.int x)) (.val (.int y)) wh) k = some (.nx, sl0 s H M far b h'.σ h'.step turn (.val (.int x)) (.val (.int y)) wh, k') ∧ DkS st' (n + 1) k' ∧ HAt b rl h' st' ∧ Inv s m (z + 40) h' := by
  obtain ⟨c, a, u, rfl, g1, g2, g3⟩ := id D0
  unfold sl0 S4
  have lt : drf 1 st (.loc (b + 2)) = .dct (kL h.told) (vL h.told) := drf_dc A.t
  have stay : DkS st (n + 1) (some (c, a, u, st)) ∧ HAt b rl h st ∧ Inv s m (z + 40) h := ⟨⟨c, a, u, rfl, g1, g2, by omega⟩, A, I.more (Nat.le_refl _) (by omega)⟩
  have i1 := in_kL (neg := false) (js := h.told) (x := x)
  cases e1 : lkJ h.told x with
  | none =>
    rw [e1] at i1
    have p1 : gInN false (.int x) (.dct (kL h.told) (vL h.told)) = some (.bl false) := i1
    refine ⟨h, _, st, ?_, stay⟩
    simp! [ap_newL, ap_listN, ap_opS, ap_unS, ap_appS, ap_setLS, ap_setDS, ap_get2S, ap_dispN, ap_newD0, ap_dictPN, ap_sortDK, ap_unp, ap_mtS, ap_dpopS, stOf_some, born_some, poke_some, lc_loc, Nat.zero_le, drf_int, drf_str, drf_non, drf_bl, drf_tup, drf_lst, drf_dct, nl_int, nl_str, nl_bl, nl_non, nl_loc, dct_of, seq_l, seq_t, isLs_l, ap_par2, ap_inS, ap_revS, lsOf_l, lt, p1]
  | some v =>
    rw [e1] at i1
    have p1 : gInN false (.int x) (.dct (kL h.told) (vL h.told)) = some (.bl true) := i1
    by_cases cy : y < 5
    · have htm := lkJ_mem e1
      obtain ⟨⟨i, hom, hio⟩, hv⟩ := I.tt _ htm
      have hom : (x, (i : Int)) ∈ h.op := hom
      have eo := lkJ_some I.an hom
      obtain ⟨i', r, e2, hr, hre⟩ := I.ao _ hom
      have e2 : (i : Int) = (i' : Int) := e2
      have e2 : i = i' := by omega
      subst e2
      have gk := get_kL eo
      obtain ⟨l, hl1, hl2, hl3⟩ := A.loc hr
      have hlt := A.lt
      have il : gIx (.lst (rl.map D.loc)) (.int (i : Int)) = some (.loc l) := by rw [WS.ix_lst, List.getElem?_map, hl1]; rfl
      have id3 : gIx (.lst (rowL r)) (.int 3) = some (.int r.b) := WS.ix_lst (xs := rowL r) (n := 3)
      have kt : lkD (kL h.told) (vL h.told) (.inl x) = some (.int v) := by rw [lk_js, e1]; rfl
      have ka : lkD (kL h.op) (vL h.op) (.inl x) = some (.int (i : Int)) := by rw [lk_js, eo]; rfl
      have d1 := drop_kL x h.told
      have d2 := drop_kL x h.op
      -- behind the telling
      have lr1 : drf 1 (st.set (b + 2) (D.dct (kL (restP h.told x)) (vL (restP h.told x)))) (.loc b) = .lst (rl.map D.loc) := drf_ls (by rw [List.getElem?_set_ne (by omega)]; exact A.r)
      have la1 : drf 1 (st.set (b + 2) (D.dct (kL (restP h.told x)) (vL (restP h.told x)))) (.loc (b + 1)) = .dct (kL h.op) (vL h.op) := drf_dc (by rw [List.getElem?_set_ne (by omega)]; exact A.a)
      have row1 : (st.set (b + 2) (D.dct (kL (restP h.told x)) (vL (restP h.told x))))[l]? = some (.lst (rowL r)) := by rw [List.getElem?_set_ne (by omega)]; exact hl2
      have lrow := drf_ls row1
      have f1 : (eApp gLstD (aCons (eDPopS (eVar 6) (eVar 12)) (aCons (eOpS 1 gIx (eOpS 1 gIx (eVar 4) (eOpS 1 gGet (eVar 5) (eVar 12))) (eC (.int 3))) (aCons (eVar 9) (aNil))))) [.val .deck, .val (.str s), .val (.int H), .val (.int M), .val (.loc b), .val (.loc (b + 1)), .val (.loc (b + 2)), .val (.loc (b + 3)), .val h.σ, .val (.int h.step), .val (.int far), turn, .val (.int x), .val (.int y), wh, .no] (some (c, a, u, st)) = some (.lst [.int v, .int r.b, .int h.step], [.val .deck, .val (.str s), .val (.int H), .val (.int M), .val (.loc b), .val (.loc (b + 1)), .val (.loc (b + 2)), .val (.loc (b + 3)), .val h.σ, .val (.int h.step), .val (.int far), turn, .val (.int x), .val (.int y), wh, .no], some (c, a, u, st.set (b + 2) (D.dct (kL (restP h.told x)) (vL (restP h.told x))))) := by
        simp! [ap_newL, ap_listN, ap_opS, ap_unS, ap_appS, ap_setLS, ap_setDS, ap_get2S, ap_dispN, ap_newD0, ap_dictPN, ap_sortDK, ap_unp, ap_mtS, ap_dpopS, stOf_some, born_some, poke_some, lc_loc, Nat.zero_le, drf_int, drf_str, drf_non, drf_bl, drf_tup, drf_lst, drf_dct, nl_int, nl_str, nl_bl, nl_non, nl_loc, dct_of, seq_l, seq_t, isLs_l, ap_par2, ap_inS, ap_revS, lsOf_l, dcAt_of A.t, kd_i, kt, d1, lr1, la1, gk, il, lrow, id3]
      have f2 : (eOpS 1 gIx (eVar 4) (eOpS 1 gGet (eVar 5) (eVar 12))) [.val .deck, .val (.str s), .val (.int H), .val (.int M), .val (.loc b), .val (.loc (b + 1)), .val (.loc (b + 2)), .val (.loc (b + 3)), .val h.σ, .val (.int h.step), .val (.int far), turn, .val (.int x), .val (.int y), wh, .no] (some (c, a, u, st.set (b + 2) (D.dct (kL (restP h.told x)) (vL (restP h.told x))))) = some (.loc l, [.val .deck, .val (.str s), .val (.int H), .val (.int M), .val (.loc b), .val (.loc (b + 1)), .val (.loc (b + 2)), .val (.loc (b + 3)), .val h.σ, .val (.int h.step), .val (.int far), turn, .val (.int x), .val (.int y), wh, .no], some (c, a, u, st.set (b + 2) (D.dct (kL (restP h.told x)) (vL (restP h.told x))))) := by
        simp! [ap_newL, ap_listN, ap_opS, ap_unS, ap_appS, ap_setLS, ap_setDS, ap_get2S, ap_dispN, ap_newD0, ap_dictPN, ap_sortDK, ap_unp, ap_mtS, ap_dpopS, stOf_some, born_some, poke_some, lc_loc, Nat.zero_le, drf_int, drf_str, drf_non, drf_bl, drf_tup, drf_lst, drf_dct, nl_int, nl_str, nl_bl, nl_non, nl_loc, dct_of, seq_l, seq_t, isLs_l, ap_par2, ap_inS, ap_revS, lsOf_l, lr1, la1, gk, il]
      have f3 := slS_ok (fl := eC (.int 2)) f1 f2 rfl (xs := rowL r) row1 (by show 2 ≤ 5; omega) (by show 5 + 3 ≤ 1000; omega)
      have a2 : ((st.set (b + 2) (D.dct (kL (restP h.told x)) (vL (restP h.told x)))).set l (D.lst (rowL (endR r v h.step))))[b + 1]? = some (.dct (kL h.op) (vL h.op)) := by
        rw [List.getElem?_set_ne (by omega), List.getElem?_set_ne (by omega)]; exact A.a
      have dk2 : DkS (stE b l h st x v r) n (some (c, a, u, stE b l h st x v r)) := ⟨c, a, u, rfl, g1, g2, g3⟩
      obtain ⟨w, k3, ew, w0, w1, dk3⟩ := draw_ok dk2 far ⟨by omega, by omega⟩ (by omega)
      refine ⟨endH x i r v w h, k3, _, ?_, dk3, A.fin hl1 hr x v w, inv_end I hz hom hr htm ⟨w0, by omega⟩⟩
      have f3 : sSlS (eApp gLstD (aCons (eDPopS (eVar 6) (eVar 12)) (aCons (eOpS 1 gIx (eOpS 1 gIx (eVar 4) (eOpS 1 gGet (eVar 5) (eVar 12))) (eC (.int 3))) (aCons (eVar 9) (aNil))))) (eOpS 1 gIx (eVar 4) (eOpS 1 gGet (eVar 5) (eVar 12))) (eC (.int 2)) [.val .deck, .val (.str s), .val (.int H), .val (.int M), .val (.loc b), .val (.loc (b + 1)), .val (.loc (b + 2)), .val (.loc (b + 3)), .val h.σ, .val (.int h.step), .val (.int far), turn, .val (.int x), .val (.int y), wh, .no] (some (c, a, u, st)) = some (.nx, [.val .deck, .val (.str s), .val (.int H), .val (.int M), .val (.loc b), .val (.loc (b + 1)), .val (.loc (b + 2)), .val (.loc (b + 3)), .val h.σ, .val (.int h.step), .val (.int far), turn, .val (.int x), .val (.int y), wh, .no], some (c, a, u, (st.set (b + 2) (D.dct (kL (restP h.told x)) (vL (restP h.told x)))).set l (D.lst (rowL (endR r v h.step))))) := f3
      simp! [ap_newL, ap_listN, ap_opS, ap_unS, ap_appS, ap_setLS, ap_setDS, ap_get2S, ap_dispN, ap_newD0, ap_dictPN, ap_sortDK, ap_unp, ap_mtS, ap_dpopS, stOf_some, born_some, poke_some, lc_loc, Nat.zero_le, drf_int, drf_str, drf_non, drf_bl, drf_tup, drf_lst, drf_dct, nl_int, nl_str, nl_bl, nl_non, nl_loc, dct_of, seq_l, seq_t, isLs_l, ap_par2, ap_inS, ap_revS, lsOf_l, lt, p1, cy, f3, dcAt_of a2, kd_i, ka, d2, ew]
      rfl
    · refine ⟨h, _, st, ?_, stay⟩
      simp! [ap_newL, ap_listN, ap_opS, ap_unS, ap_appS, ap_setLS, ap_setDS, ap_get2S, ap_dispN, ap_newD0, ap_dictPN, ap_sortDK, ap_unp, ap_mtS, ap_dpopS, stOf_some, born_some, poke_some, lc_loc, Nat.zero_le, drf_int, drf_str, drf_non, drf_bl, drf_tup, drf_lst, drf_dct, nl_int, nl_str, nl_bl, nl_non, nl_loc, dct_of, seq_l, seq_t, isLs_l, ap_par2, ap_inS, ap_revS, lsOf_l, lt, p1, cy]
end
end W30
namespace W30
open PySem PySem.Spec L2
open WS hiding DkOk draw_ok
theorem put1213 {p q : D} {s0 s1 s2 s3 s4 s5 s6 s7 s8 s9 s10 s11 s12 s13 s14 s15 : Sl} : put2 12 13 [p, q] [s0, s1, s2, s3, s4, s5, s6, s7, s8, s9, s10, s11, s12, s13, s14, s15] = some [s0, s1, s2, s3, s4, s5, s6, s7, s8, s9, s10, s11, .val p, .val q, s14, s15] := rfl
theorem put89 {p q : D} {s0 s1 s2 s3 s4 s5 s6 s7 s8 s9 s10 s11 s12 s13 s14 s15 : Sl} : put2 8 9 [p, q] [s0, s1, s2, s3, s4, s5, s6, s7, s8, s9, s10, s11, s12, s13, s14, s15] = some [s0, s1, s2, s3, s4, s5, s6, s7, .val p, .val q, s10, s11, s12, s13, s14, s15] := rfl
theorem set4 {p q r t : D} {s0 s1 s2 s3 s4 s5 s6 s7 s8 s9 s10 s11 s12 s13 s14 s15 : Sl} : gSeqT [gSet 4, gSet 5, gSet 6, gSet 7] (.tup [p, q, r, t]) [s0, s1, s2, s3, s4, s5, s6, s7, s8, s9, s10, s11, s12, s13, s14, s15] = some [s0, s1, s2, s3, .val p, .val q, .val r, .val t, s8, s9, s10, s11, s12, s13, s14, s15] := rfl
theorem nl_told {d : D} (h : Told d) : nl d = true := by
  rcases h with rfl | ⟨t, rfl, _⟩ <;> rfl
theorem nl_opt {e : Option Int} : nl (optD e) = true := by cases e <;> rfl
theorem nl_row {s : Str} {r : Row} (h1 : Dd s r.deed) (h2 : Told r.told) : nl (rowD r) = true := by
  show (true && (nl r.deed && (nl r.told && (true && (nl (optD r.e) && true))))) = true
  rw [h1.nl, nl_told h2, nl_opt]; rfl
theorem nl_ord : ∀ o : List Nat, nl (.tup (o.map nD)) = true := fun o => by
  have e : o.map nD = (o.map fun n : Nat => (n : Int)).map D.int := by rw [List.map_map]; rfl
  have : nl (.tup (o.map nD)) = nls (o.map nD) := rfl
  rw [this, e, nls_ints]
section
variable {b : Nat} {rl : List Nat} {h : Hs} {st : List D} (A : HAt b rl h st) {s : Str} {m : Nat} {z : Int} (I : Inv s m z h)
include A I
theorem rows_tup {c : List Int} {a u : Int} {s0 s1 s2 s3 s5 s6 s7 s8 s9 s10 s11 s12 s13 s14 : Sl} :
    eCompG (srcL (eVar 4)) [15] (gSet 15) (eC (.bl true)) (eAppS 1 gTuple (aCons (eVar 15) aNil)) [s0, s1, s2, s3, .val (.loc b), s5, s6, s7, s8, s9, s10, s11, s12, s13, s14, .no] (some (c, a, u, st)) = some (.lst (h.rows.map rowD), [s0, s1, s2, s3, .val (.loc b), s5, s6, s7, s8, s9, s10, s11, s12, s13, s14, .no], some (c, a, u, st)) := by
  have e0 : srcL (eVar 4) [s0, s1, s2, s3, .val (.loc b), s5, s6, s7, s8, s9, s10, s11, s12, s13, s14, .no] (some (c, a, u, st)) = some (nxL b, (rl.map D.loc).length + 1, [s0, s1, s2, s3, .val (.loc b), s5, s6, s7, s8, s9, s10, s11, s12, s13, s14, .no], some (c, a, u, st)) := srcL_of (rfl : eVar 4 [s0, s1, s2, s3, .val (.loc b), s5, s6, s7, s8, s9, s10, s11, s12, s13, s14, .no] (some (c, a, u, st)) = some (.loc b, [s0, s1, s2, s3, .val (.loc b), s5, s6, s7, s8, s9, s10, s11, s12, s13, s14, .no], some (c, a, u, st))) A.r
  have hd : (stOf (some (c, a, u, st)))[b]? = some (.lst (rl.map D.loc)) := A.r
  have key := gcompL_map (n := b) (k := some (c, a, u, st)) (ρ := [s0, s1, s2, s3, .val (.loc b), s5, s6, s7, s8, s9, s10, s11, s12, s13, s14, .no]) (g := gSet 15) (vs := [15]) (tt := eC (.bl true)) (elt := eAppS 1 gTuple (aCons (eVar 15) aNil)) (fun d => match d with
      | .loc n => match st[n]? with
        | some (.lst xs) => .tup xs
        | _ => .non
      | _ => .non) hd (fun d hdm => by
    obtain ⟨n, hn, rfl⟩ := List.mem_map.mp hdm
    obtain ⟨i, hi⟩ := List.mem_iff_getElem?.mp hn
    have hil : i < h.rows.length := by rw [← A.l]; exact (List.getElem?_eq_some_iff.mp hi).1
    have hw := A.w i n h.rows[i] hi (List.getElem?_eq_getElem hil)
    obtain ⟨_, q1, q2, _⟩ := I.rb h.rows[i] (List.getElem_mem hil)
    have nr : (nl (.tup (rowL h.rows[i])) = true) = True := eq_true (nl_row q1 q2)
    refine ⟨_, _, [s0, s1, s2, s3, .val (.loc b), s5, s6, s7, s8, s9, s10, s11, s12, s13, s14, .val (.loc n)], rfl, rfl, ?_, rfl⟩
    simp! [ap_newL, ap_listN, ap_opS, ap_unS, ap_appS, ap_setLS, ap_setDS, ap_get2S, ap_dispN, ap_newD0, ap_dictPN, ap_sortDK, ap_unp, ap_mtS, ap_dpopS, stOf_some, born_some, poke_some, lc_loc, Nat.zero_le, drf_int, drf_str, drf_non, drf_bl, drf_tup, drf_lst, drf_dct, nl_int, nl_str, nl_bl, nl_non, nl_loc, dct_of, seq_l, seq_t, isLs_l, ap_par2, ap_inS, ap_revS, lsOf_l, List.map_cons, List.map_nil, drf_ls hw, nr]
    rw [hw]) ((rl.map D.loc).length + 1) 0 (by omega) (by omega)
  have e2 : (rl.map D.loc).map (fun d => match d with
      | .loc n => match st[n]? with
        | some (.lst xs) => .tup xs
        | _ => .non
      | _ => .non) = h.rows.map rowD := by
    rw [List.map_map]
    refine List.ext_getElem? fun i => ?_
    rw [List.getElem?_map, List.getElem?_map]
    cases hi : rl[i]? with
    | none =>
      have : h.rows[i]? = none := List.getElem?_eq_none_iff.mpr (by rw [← A.l]; exact List.getElem?_eq_none_iff.mp hi)
      rw [this]; rfl
    | some n =>
      have hil : i < h.rows.length := by rw [← A.l]; exact (List.getElem?_eq_some_iff.mp hi).1
      have hw := A.w i n h.rows[i] hi (List.getElem?_eq_getElem hil)
      rw [List.getElem?_eq_getElem hil]
      simp only [Option.map_some, Function.comp, hw]
      rfl
  have hlen := I.len
  rw [List.drop_zero, e2] at key
  unfold eCompG gComp0
  rw [e0, Option.bind_some]
  dsimp only
  rw [if_pos (by rw [List.length_map, A.l, sizeLine_eq]; omega)]
  have hw : wipeS [s0, s1, s2, s3, .val (.loc b), s5, s6, s7, s8, s9, s10, s11, s12, s13, s14, .no] [15] = [s0, s1, s2, s3, .val (.loc b), s5, s6, s7, s8, s9, s10, s11, s12, s13, s14, .no] := rfl
  rw [hw, key]
  rfl
end
/-- what is known of a history -/
structure Hst (s : Str) (rows : List Row) (o : List Nat) : Prop where
  len : rows.length ≤ 10
  ol : ∀ n ∈ o, n < rows.length
  om : o.length ≤ 50
  rb : ∀ r ∈ rows, (0 ≤ r.b ∧ r.b ≤ 5000) ∧ Dd s r.deed ∧ Told r.told ∧ (0 ≤ r.hand ∧ r.hand ≤ 3) ∧ ∀ e, r.e = some e → 0 ≤ e ∧ e ≤ 5000
  en : ∀ (n : Nat) (r : Row), rows[n]? = some r → r.e ≠ none → n ∈ o
  pw : o.Pairwise (Good rows)
  self : ∀ n ∈ o, Good rows n n
theorem hist_ok {s : Str} (hs : Sp s) {H M : Int} (hH : 1 ≤ H ∧ H ≤ 4) (hM : 1 ≤ M ∧ M ≤ 10) {st : List D} {n : Nat} {k : Dk} (D0 : DkS st n k) (hn : n < 10000000) :
    ∃ rows o k' st', F__law_history [.deck, .str s, .int H, .int M] k = some (.tup [histD rows, ordD o], k') ∧ DkS st' (n + 500) k' ∧ Hst s rows o := by
  obtain ⟨c, a, u, rfl, g1, g2, g3⟩ := id D0
  obtain ⟨σ, e1, hσ⟩ := first_ok hs (some (c, a, u, st ++ [D.lst []] ++ [D.dct [] []] ++ [D.dct [] []] ++ [D.lst []]))
  have D1 : DkS (st ++ [D.lst []] ++ [D.dct [] []] ++ [D.dct [] []] ++ [D.lst []]) n (some (c, a, u, st ++ [D.lst []] ++ [D.dct [] []] ++ [D.dct [] []] ++ [D.lst []])) := ⟨c, a, u, rfl, g1, g2, g3⟩
  obtain ⟨sp, k2, e2, s0, s4, D2⟩ := draw_ok D1 4 ⟨by omega, by omega⟩ (by omega)
  obtain ⟨far, k3, e3, hf, D3⟩ := pick_ok D2 [.int 1, .int 2, .int 40] ⟨by simp, by simp⟩ (by omega)
  have hf : ∃ f : Int, far = .int f ∧ 1 ≤ f ∧ f ≤ 40 := by
    simp only [List.mem_cons, List.not_mem_nil, or_false] at hf
    rcases hf with rfl | rfl | rfl <;> exact ⟨_, rfl, by omega, by omega⟩
  obtain ⟨f, rfl, f1, f40⟩ := hf
  have A0 : HAt st.length [] ⟨[], [], [], [], σ, sp⟩ (st ++ [D.lst []] ++ [D.dct [] []] ++ [D.dct [] []] ++ [D.lst []]) := by
    refine ⟨?_, ?_, ?_, ?_, rfl, fun i n r h => by simp at h, fun n h => by simp at h, List.nodup_nil⟩ <;> simp <;> first | rfl | exact ⟨rfl, rfl⟩
  have I0 : Inv s 0 (3 + 80 * 0) ⟨[], [], [], [], σ, sp⟩ := by
    refine ⟨by simp, by simp, by simp, by simp, by simp, by simp, by simp, by simp, by simp, by simp, by simp, by simp, hσ, by simp, by simp, ⟨s0, ?_⟩⟩
    show sp ≤ 3 + 80 * 0
    omega
  let J : Nat → List Sl → Dk → Prop := fun i ρ k => ∃ h rl st2 turn hand way wh, ρ = sl0 s H M f st.length h.σ h.step turn hand way wh ∧ DkS st2 (n + 2 + 8 * i) k ∧ HAt st.length rl h st2 ∧ Inv s i (3 + 80 * (i : Int)) h
  have hm5 : gMul (.int 5) (.int M) = some (.int (5 * M)) := r_mulL ⟨by omega, by omega⟩
  obtain ⟨q, hq⟩ := Int.eq_ofNat_of_zero_le (show 0 ≤ 5 * M by omega)
  have rg : gRange1 [.int (5 * M)] = some ((List.range q).map nD) := by rw [hq]; exact range0 (by omega)
  have hq50 : q ≤ 50 := by omega
  obtain ⟨ρ', k', r1, r2⟩ := for_inv (g := gSet 11) (body := L1__law_history) J ((List.range q).map nD) 0 (sl0 s H M f st.length σ sp .no .no .no .no) k3 ⟨_, [], _, .no, .no, .no, .no, rfl, by simpa using D3, A0, I0⟩ fun i d hd ρ k hJ => by
    rw [Nat.zero_add] at hJ ⊢
    obtain ⟨h, rl, st2, turn, hand, way, wh, rfl, dk, A, I⟩ := hJ
    have hi : i < q := by
      have := (List.getElem?_eq_some_iff.mp hd).1
      simpa using this
    obtain ⟨x, k1, ex, x0, x1, dk1⟩ := draw_ok dk H ⟨by omega, by omega⟩ (by omega)
    obtain ⟨y, k2, ey, y0, y1, dk2⟩ := draw_ok dk1 6 ⟨by omega, by omega⟩ (by omega)
    obtain ⟨h2, rl2, y2, k3, st3, es2, dk3, A2, I2, hy2⟩ := s2_ok hs (H := H) hM.2 ⟨f1, f40⟩ A I dk2 (by omega) (x := x) (y := y) ⟨by omega, by omega⟩ ⟨by omega, by omega⟩ (turn := .val d) (wh := wh)
    obtain ⟨h3, y3, wh3, k4, st4, es3, dk4, A3, I3⟩ := s3_ok (H := H) (M := M) (far := f) A2 (by omega) I2 dk3 (by omega) (x := x) (y := y2) ⟨by omega, by omega⟩ hy2 (turn := .val d) (wh := wh)
    obtain ⟨h4, k5, st5, es4, dk5, A4, I4⟩ := s4_ok (H := H) (M := M) (far := f) ⟨f1, f40⟩ A3 (by omega) I3 dk4 (by omega) (x := x) (y := y3) (turn := .val d) (wh := wh3)
    have es1 : S1 (sl0 s H M f st.length h.σ h.step (.val d) hand way wh) k = some (.nx, sl0 s H M f st.length h.σ h.step (.val d) (.val (.int x)) (.val (.int y)) wh, k2) := by
      unfold S1 sl0
      simp! [ap_newL, ap_listN, ap_opS, ap_unS, ap_appS, ap_setLS, ap_setDS, ap_get2S, ap_dispN, ap_newD0, ap_dictPN, ap_sortDK, ap_unp, ap_mtS, ap_dpopS, stOf_some, born_some, poke_some, lc_loc, Nat.zero_le, drf_int, drf_str, drf_non, drf_bl, drf_tup, drf_lst, drf_dct, nl_int, nl_str, nl_bl, nl_non, nl_loc, dct_of, seq_l, seq_t, isLs_l, ap_par2, ap_inS, ap_revS, lsOf_l, ex, ey, put1213]
    refine ⟨sl0 s H M f st.length h.σ h.step (.val d) hand way wh, sl0 s H M f st.length h4.σ h4.step (.val d) (.val (.int x)) (.val (.int y3)) wh3, k5, rfl, ?_, h4, rl2, st5, .val d, .val (.int x), .val (.int y3), wh3, rfl, dk5.mono (by omega), A4, I4.more (Nat.le_refl _) (by omega)⟩
    rw [turn_is]
    simp! [ap_newL, ap_listN, ap_opS, ap_unS, ap_appS, ap_setLS, ap_setDS, ap_get2S, ap_dispN, ap_newD0, ap_dictPN, ap_sortDK, ap_unp, ap_mtS, ap_dpopS, stOf_some, born_some, poke_some, lc_loc, Nat.zero_le, drf_int, drf_str, drf_non, drf_bl, drf_tup, drf_lst, drf_dct, nl_int, nl_str, nl_bl, nl_non, nl_loc, dct_of, seq_l, seq_t, isLs_l, ap_par2, ap_inS, ap_revS, lsOf_l, es1, es2, es3, es4]
  rw [Nat.zero_add, List.length_map, List.length_range] at r2
  obtain ⟨h, rl, st2, turn, hand, way, wh, rfl, dk, A, I⟩ := r2
  obtain ⟨c2, a2, u2, rfl, x1, x2, x3⟩ := id dk
  have hsp := I.sp
  refine ⟨h.rows, h.ord, _, st2, ?_, dk.mono (by omega), I.len, I.ol, Nat.le_trans I.om hq50, fun r hr => ?_, I.en, I.pw, I.self⟩
  · have ho := drf_ls A.o
    have no : (nl (.tup (h.ord.map nD)) = true) = True := eq_true (nl_ord _)
    have rt := @rows_tup st.length rl h st2 A s q _ I c2 a2 u2 (.val .deck) (.val (.str s)) (.val (.int H)) (.val (.int M)) (.val (.loc (st.length + 1))) (.val (.loc (st.length + 2))) (.val (.loc (st.length + 3))) (.val h.σ) (.val (.int h.step)) (.val (.int f)) turn hand way wh
    have sz : (((List.range q).map nD).length < sizeLine) = True := eq_true (by rw [List.length_map, List.length_range, sizeLine_eq]; omega)
    have l1 : (st ++ [D.lst []]).length = st.length + 1 := by simp
    have l2 : (st ++ [D.lst []] ++ [D.dct [] []]).length = st.length + 2 := by simp
    have l3 : (st ++ [D.lst []] ++ [D.dct [] []] ++ [D.dct [] []]).length = st.length + 3 := by simp
    have r1 : sForGo (gSet 11) L1__law_history ((List.range q).map nD) [.val .deck, .val (.str s), .val (.int H), .val (.int M), .val (.loc st.length), .val (.loc (st.length + 1)), .val (.loc (st.length + 2)), .val (.loc (st.length + 3)), .val σ, .val (.int sp), .val (.int f), .no, .no, .no, .no, .no] k3 = some (.nx, [.val .deck, .val (.str s), .val (.int H), .val (.int M), .val (.loc st.length), .val (.loc (st.length + 1)), .val (.loc (st.length + 2)), .val (.loc (st.length + 3)), .val h.σ, .val (.int h.step), .val (.int f), turn, hand, way, wh, .no], some (c2, a2, u2, st2)) := r1
    unfold F__law_history body__law_history
    simp! [ap_newL, ap_listN, ap_opS, ap_unS, ap_appS, ap_setLS, ap_setDS, ap_get2S, ap_dispN, ap_newD0, ap_dictPN, ap_sortDK, ap_unp, ap_mtS, ap_dpopS, stOf_some, born_some, poke_some, lc_loc, Nat.zero_le, drf_int, drf_str, drf_non, drf_bl, drf_tup, drf_lst, drf_dct, nl_int, nl_str, nl_bl, nl_non, nl_loc, dct_of, seq_l, seq_t, isLs_l, ap_par2, ap_inS, ap_revS, lsOf_l, l1, l2, l3, set4, e1, e2, e3, put89, hm5, rg, sz, r1, rt, ho, List.map_cons, List.map_nil, no]
    rfl
  · obtain ⟨h1, h2⟩ := I.rb r hr
    exact ⟨by omega, h2⟩
end W30
namespace W30
open PySem PySem.Spec L2
open WS hiding DkOk draw_ok
theorem seq_at {i : Int} {n : Nat} (h : 0 ≤ i ∧ i < n) : seqIndex? i n = some i.toNat := by
  unfold seqIndex?
  have h0 : ¬ i < 0 := by omega
  simp [h0]
  omega
theorem erase_map : ∀ (l : List Nat) (i : Nat), (l.map nD).eraseIdx i = (l.eraseIdx i).map nD
  | [], _ => rfl
  | _ :: _, 0 => rfl
  | x :: r, i + 1 => by
    show nD x :: (r.map nD).eraseIdx i = _
    rw [erase_map r i]; rfl
theorem turned_ok {b : Nat} {v1 : Sl} : ∀ (f : Nat) (left out : List Nat) (st : List D) (n : Nat) (k : Dk), left.length < f → left.length ≤ 100 → out.length + left.length ≤ 1000 → st[b]? = some (.lst (left.map nD)) → DkS st n k → n + left.length < 1000000000 →
    ∃ (out' : List Nat) (st' : List D) (k' : Dk), sWhileGo (eOpS 1 gNeE (eVar 2) (eApp gLstD (aNil))) L1__law_turned f [.val .deck, v1, .val (.loc b), .own (.lst (out.map nD))] k = some (.nx, [.val .deck, v1, .val (.loc b), .own (.lst (out'.map nD))], k') ∧ DkS st' (n + left.length) k' ∧ (∀ x ∈ out', x ∈ out ∨ x ∈ left) ∧ out'.length = out.length + left.length
  | 0, left, out, st, n, k, hf, _, _, _, _, _ => by omega
  | f + 1, left, out, st, n, k, hf, hl, ho, hb, dk, hn => by
    obtain ⟨c, a, u, rfl, g1, g2, g3⟩ := id dk
    have ec : eOpS 1 gNeE (eVar 2) (eApp gLstD (aNil)) [.val .deck, v1, .val (.loc b), .own (.lst (out.map nD))] (some (c, a, u, st)) = some (.bl (!left.isEmpty), [.val .deck, v1, .val (.loc b), .own (.lst (out.map nD))], some (c, a, u, st)) := by
      have he : (left.map nD).isEmpty = left.isEmpty := by cases left <;> rfl
      simp! [ap_newL, ap_listN, ap_opS, ap_unS, ap_appS, ap_setLS, ap_setDS, ap_get2S, ap_dispN, ap_newD0, ap_dictPN, ap_sortDK, ap_unp, ap_mtS, ap_dpopS, stOf_some, born_some, poke_some, lc_loc, Nat.zero_le, drf_int, drf_str, drf_non, drf_bl, drf_tup, drf_lst, drf_dct, nl_int, nl_str, nl_bl, nl_non, nl_loc, dct_of, seq_l, seq_t, isLs_l, ap_par2, ap_inS, ap_revS, lsOf_l, drf_ls hb, r_neL0, he]
    unfold sWhileGo
    rw [ec, Option.bind_some]
    cases hc : left with
    | nil => exact ⟨out, st, _, rfl, dk.mono (by omega), fun x hx => .inl hx, rfl⟩
    | cons y r =>
      rw [← hc]
      have hpos : 0 < left.length := by rw [hc]; simp
      obtain ⟨i, k1, ed, i0, i1, d1⟩ := draw_ok dk (left.length : Int) ⟨by omega, by omega⟩ (by omega)
      obtain ⟨c1, a1, u1, rfl, x1, x2, x3⟩ := id d1
      have hi : i.toNat < left.length := by omega
      have hgl : gLen [.lst (left.map nD)] = some (.int (left.length : Int)) := by rw [r_lenL, List.length_map]
      have hp : mPopAt (left.map nD) [.int i] = some (nD left[i.toNat], (left.eraseIdx i.toNat).map nD) := by
        show (if -(2 ^ 63) ≤ i ∧ i < 2 ^ 63 then (seqIndex? i (left.map nD).length).bind fun k => (left.map nD)[k]?.map fun d => (d, (left.map nD).eraseIdx k) else none) = _
        rw [if_pos (by omega), seq_at (by rw [List.length_map]; omega), Option.bind_some, List.getElem?_map, List.getElem?_eq_getElem hi, erase_map]
        rfl
      have sz : ((out.map nD).length < sizeLine) = True := eq_true (by rw [List.length_map, sizeLine_eq]; omega)
      have eb : L1__law_turned [.val .deck, v1, .val (.loc b), .own (.lst (out.map nD))] (some (c, a, u, st)) = some (.nx, [.val .deck, v1, .val (.loc b), .own (.lst ((out ++ [left[i.toNat]]).map nD))], some (c1, a1, u1, st.set b (.lst ((left.eraseIdx i.toNat).map nD)))) := by
        unfold L1__law_turned
        rw [List.map_append]
        simp! [ap_newL, ap_listN, ap_opS, ap_unS, ap_appS, ap_setLS, ap_setDS, ap_get2S, ap_dispN, ap_newD0, ap_dictPN, ap_sortDK, ap_unp, ap_mtS, ap_dpopS, stOf_some, born_some, poke_some, lc_loc, Nat.zero_le, drf_int, drf_str, drf_non, drf_bl, drf_tup, drf_lst, drf_dct, nl_int, nl_str, nl_bl, nl_non, nl_loc, dct_of, seq_l, seq_t, isLs_l, ap_par2, ap_inS, ap_revS, lsOf_l, List.map_cons, List.map_nil, drf_ls hb, hgl, ed, lsAt_of hb, hp, sz]
      have hlen : (left.eraseIdx i.toNat).length = left.length - 1 := List.length_eraseIdx_of_lt hi
      obtain ⟨out', st', k', e1, e2, e3, e4⟩ := turned_ok (b := b) (v1 := v1) f (left.eraseIdx i.toNat) (out ++ [left[i.toNat]]) (st.set b (.lst ((left.eraseIdx i.toNat).map nD))) (n + 1) _ (by omega) (by omega) (by rw [List.length_append]; simp; omega) (at_set hb) ⟨c1, a1, u1, rfl, x1, x2, x3⟩ (by omega)
      refine ⟨out', st', k', ?_, e2.mono (by omega), fun x hx => ?_, ?_⟩
      · have ht : (!left.isEmpty) = true := by rw [hc]; rfl
        rw [ht]
        dsimp only
        rw [eb, Option.bind_some]
        exact e1
      · rcases e3 x hx with q | q
        · rcases List.mem_append.mp q with q | q
          · exact .inl q
          · rw [List.mem_singleton] at q
            rw [q]; exact .inr (List.getElem_mem hi)
        · exact .inr (List.mem_of_mem_eraseIdx q)
      · rw [e4, List.length_append, hlen]; simp; omega
theorem law_turned {st : List D} {n : Nat} {k : Dk} {o : List Nat} (dk : DkS st n k) (hl : o.length ≤ 100) (hn : n < 100000000) :
    ∃ (o' : List Nat) (st' : List D) (k' : Dk), F__law_turned [.deck, .lst (o.map nD)] k = some (.lst (o'.map nD), k') ∧ DkS st' (n + 100) k' ∧ (∀ x ∈ o', x ∈ o) ∧ o'.length = o.length := by
  obtain ⟨c, a, u, rfl, g1, g2, g3⟩ := id dk
  obtain ⟨o', st', k', e1, e2, e3, e4⟩ := turned_ok (b := st.length) (v1 := .val (.lst (o.map nD))) 10000 o [] (st ++ [.lst (o.map nD)]) n (some (c, a, u, st ++ [.lst (o.map nD)])) (by omega) hl (by simp; omega) at_new ⟨c, a, u, rfl, g1, g2, g3⟩ (by omega)
  refine ⟨o', st', k', ?_, e2.mono (by omega), fun x hx => (e3 x hx).resolve_left (by simp), by simpa using e4⟩
  have e1 : sWhile 10000 (eOpS 1 gNeE (eVar 2) (eApp gLstD (aNil))) L1__law_turned [.val .deck, .val (.lst (o.map nD)), .val (.loc st.length), .own (.lst [])] (some (c, a, u, st ++ [.lst (o.map nD)])) = some (.nx, [.val .deck, .val (.lst (o.map nD)), .val (.loc st.length), .own (.lst (o'.map nD))], k') := e1
  unfold F__law_turned body__law_turned
  simp! [ap_newL, ap_listN, ap_opS, ap_unS, ap_appS, ap_setLS, ap_setDS, ap_get2S, ap_dispN, ap_newD0, ap_dictPN, ap_sortDK, ap_unp, ap_mtS, ap_dpopS, stOf_some, born_some, poke_some, lc_loc, Nat.zero_le, drf_int, drf_str, drf_non, drf_bl, drf_tup, drf_lst, drf_dct, nl_int, nl_str, nl_bl, nl_non, nl_loc, dct_of, seq_l, seq_t, isLs_l, ap_par2, ap_inS, ap_revS, lsOf_l, e1]
end W30
namespace W30
open PySem PySem.Spec L2
open WS hiding DkOk draw_ok
def Ok6 (d : D) : Prop := Pl d ∧ Sh 6 24 d
theorem ok6_int {i : Int} (h : i.natAbs ≤ 10 ^ 55) : Ok6 (.int i) := ⟨.int _, sh_int h⟩
theorem res_tup {xs : List D} (h : ∀ d ∈ xs, Ok6 d) (hl : xs.length ≤ 101) : Pl (.tup xs) ∧ Sh 8 3000 (.tup xs) :=
  ⟨.tup fun x hx => (h x hx).1, sh_tup (fun x hx => (h x hx).2) (by omega) (by omega)⟩
theorem res_lst {xs : List D} (h : ∀ d ∈ xs, Ok6 d) (hl : xs.length ≤ 101) : Pl (.lst xs) ∧ Sh 8 3000 (.lst xs) :=
  ⟨.lst _, sh_lst (fun x hx => (h x hx).2) (by omega) (by omega)⟩
theorem ok6_ints {ns : List Int} (h : ∀ x ∈ ns, 0 ≤ x ∧ x ≤ 5000) : ∀ d ∈ ns.map D.int, Ok6 d := fun d hd => by
  obtain ⟨i, hi, rfl⟩ := List.mem_map.mp hd
  have := h i hi
  exact ok6_int (by have : i.natAbs ≤ 5000 := by omega
                    exact Nat.le_trans this (by decide))
theorem sh_ints {ns : List Int} (h : ∀ x ∈ ns, 0 ≤ x ∧ x ≤ 5000) (hl : ns.length ≤ 100) : Sh 4 100 (.tup (ns.map .int)) :=
  sh_tup (n := 3) (w := 0) (fun d hd => by
    obtain ⟨i, hi, rfl⟩ := List.mem_map.mp hd
    have := h i hi
    exact sh_int (by have : i.natAbs ≤ 5000 := by omega
                     exact Nat.le_trans this (by decide))) (by omega) (by rw [List.length_map]; omega)
theorem pl_ints (ns : List Int) : Pl (.tup (ns.map .int)) := .tup fun d hd => by
  obtain ⟨i, hi, rfl⟩ := List.mem_map.mp hd
  exact .int i
def endZ (r : Row) (x : Int) : Int := match r.e with
  | none => x
  | some e => e + 1
section
variable {rows rs : List Row} {o : List Nat} (R : Rws rows o rs) (ho : o.length ≤ 100) (F : Fit 5000 rs) (hb : ∀ r ∈ rs, ∀ e, r.e = some e → 0 ≤ e ∧ e ≤ 5000)
include R ho F hb
theorem spoilt_ok {ns : List Int} (K : Okn rs ns) {st : List D} {n : Nat} {k : Dk} (dk : DkS st n k) (hn : n < 100000000) :
    ∃ x k', F__law_spoilt [.deck, histD rows, ordD o, .tup (ns.map .int)] k = some (x, k') ∧ Pl x ∧ Sh 8 3000 x ∧ DkS st (n + 4) k' := by
  have ord : ordD o = .tup (o.map nD) := rfl
  have hlen : ns.length = o.length := by rw [K.len, R.len]
  obtain ⟨v, k1, e1, v0, v1, d1⟩ := draw_ok dk 10 ⟨by omega, by omega⟩ (by omega)
  have em : (ns.map D.int).isEmpty = ns.isEmpty := by cases ns <;> rfl
  have hsp := sh_ints K.bd (by omega)
  have q0 : gEqE (.tup (ns.map D.int)) (.tup []) = some (.bl ns.isEmpty) := by rw [r_eqT0, em]
  by_cases hA : ns.isEmpty = true ∨ v = 0
  · obtain ⟨x, k2, e2, p2, s2, d2⟩ := odd_ok (pl_ints ns) hsp (by omega) d1 (by omega)
    refine ⟨x, k2, ?_, p2, s2.mono (by omega) (by omega), d2.mono (by omega)⟩
    unfold F__law_spoilt body__law_spoilt
    cases he : ns.isEmpty with
    | true =>
      rw [he] at q0
      simp! [ap_newL, ap_listN, ap_opS, ap_unS, ap_appS, ap_setLS, ap_setDS, ap_get2S, ap_dispN, ap_newD0, ap_dictPN, ap_sortDK, ap_unp, ap_mtS, ap_dpopS, stOf_some, born_some, poke_some, lc_loc, Nat.zero_le, drf_int, drf_str, drf_non, drf_bl, drf_tup, drf_lst, drf_dct, nl_int, nl_str, nl_bl, nl_non, nl_loc, dct_of, seq_l, seq_t, isLs_l, ap_par2, ap_inS, ap_revS, lsOf_l, e1, q0, e2]
    | false =>
      have hv : v = 0 := hA.resolve_left (by rw [he]; simp)
      subst hv
      rw [he] at q0
      simp! [ap_newL, ap_listN, ap_opS, ap_unS, ap_appS, ap_setLS, ap_setDS, ap_get2S, ap_dispN, ap_newD0, ap_dictPN, ap_sortDK, ap_unp, ap_mtS, ap_dpopS, stOf_some, born_some, poke_some, lc_loc, Nat.zero_le, drf_int, drf_str, drf_non, drf_bl, drf_tup, drf_lst, drf_dct, nl_int, nl_str, nl_bl, nl_non, nl_loc, dct_of, seq_l, seq_t, isLs_l, ap_par2, ap_inS, ap_revS, lsOf_l, e1, q0, e2]
  · have he : ns.isEmpty = false := by
      cases h : ns.isEmpty with
      | true => exact absurd (.inl h) hA
      | false => rfl
    have hv : ¬ v = 0 := fun h => hA (.inr h)
    have hpos : 0 < ns.length := by
      cases ns with
      | nil => cases he
      | cons => simp
    have v0' : gEqE (.int v) (.int 0) = some (.bl false) := by rw [WS.r_eqI]; simp [hv]
    obtain ⟨i, k2, e2, i0, i1, d2⟩ := draw_ok d1 (ns.length : Int) ⟨by omega, by omega⟩ (by omega)
    obtain ⟨j, rfl⟩ := Int.eq_ofNat_of_zero_le i0
    have hj : j < ns.length := by omega
    have hjo : j < o.length := by omega
    obtain ⟨r, hr, hr2⟩ := R.at_ j o[j] (List.getElem?_eq_getElem hjo)
    have hrm : r ∈ rs := List.mem_of_getElem? hr2
    have hrb := F.b0 r hrm
    have hx := K.bd ns[j] (List.getElem_mem hj)
    generalize hxe : ns[j] = x at hx
    have shx : Sh 4 0 (.int x) := sh_int (by
      have : x.natAbs ≤ 5000 := by omega
      exact Nat.le_trans this (by decide))
    obtain ⟨od, k3, e3, p3, s3, d3⟩ := odd_ok (p := .int x) (m := 4) (w := 0) (.int x) shx (by omega) d2 (by omega)
    have gl : gLen [.tup (ns.map D.int)] = some (.int (ns.length : Int)) := by rw [r_lenT, List.length_map]
    have x1 : gIx (.tup (o.map nD)) (.int (j : Int)) = some (nD o[j]) := by
      rw [WS.ix_tup, List.getElem?_map, List.getElem?_eq_getElem hjo]; rfl
    have x2 := ix_hist hr
    have x3 : gIx (.tup (ns.map D.int)) (.int (j : Int)) = some (.int x) := by
      rw [WS.ix_tup, List.getElem?_map, List.getElem?_eq_getElem hj, hxe]; rfl
    have x4 := ix4 (r := r)
    have L : ∀ d ∈ ([.int (x - 1), .int (x + 1), .int (r.b - 1), .int r.b, .int (10 ^ 39), .int (-1), .bl (decide (x = 1)), od] ++ [.int (endZ r x)] : List D), Ok6 d := fun d hd => by
      have small : ∀ i : Int, -1 ≤ i ∧ i ≤ 6000 → Ok6 (.int i) := fun i hi => ok6_int (by
        have : i.natAbs ≤ 6000 := by omega
        exact Nat.le_trans this (by decide))
      simp only [List.mem_append, List.mem_cons, List.not_mem_nil, or_false] at hd
      rcases hd with (rfl | rfl | rfl | rfl | rfl | rfl | rfl | rfl) | rfl
      · exact small _ (by omega)
      · exact small _ (by omega)
      · exact small _ (by omega)
      · exact small _ (by omega)
      · exact ok6_int (by decide)
      · exact small _ (by omega)
      · exact ⟨.bl _, sh_bl⟩
      · exact ⟨p3, s3.mono (by omega) (by omega)⟩
      · unfold endZ
        cases he2 : r.e with
        | none => show Ok6 (.int x); exact small _ (by omega)
        | some e =>
          have := hb r hrm e he2
          show Ok6 (.int (e + 1)); exact small _ (by omega)
    have O : ∀ d ∈ ns.map D.int, Ok6 d := ok6_ints K.bd
    have hln : (ns.map D.int).length ≤ 100 := by rw [List.length_map]; omega
    have s1 : gSl (.tup (ns.map D.int)) none (some (j : Int)) = some (.tup ((ns.map D.int).take j)) := sl_to (by omega)
    have s2 : gSl (.tup (ns.map D.int)) (some ((j : Int) + 1)) none = some (.tup ((ns.map D.int).drop (j + 1))) := sl_from (by omega)
    have s4 : gSl (.tup (ns.map D.int)) none (some ((j : Int) + 1)) = some (.tup ((ns.map D.int).take (j + 1))) := sl_to (by omega)
    have s5 : gSl (.tup (ns.map D.int)) (some (j : Int)) none = some (.tup ((ns.map D.int).drop j)) := sl_from (by omega)
    have ha := r_addL (a := [.int (x - 1), .int (x + 1), .int (r.b - 1), .int r.b, .int (10 ^ 39), .int (-1), .bl (decide (x = 1)), od]) (b := [.int (endZ r x)]) (by simp)
    have Ot : ∀ (m : Nat), ∀ d ∈ (ns.map D.int).take m, Ok6 d := fun m d hd => O d (List.mem_of_mem_take hd)
    have Od : ∀ (m : Nat), ∀ d ∈ (ns.map D.int).drop m, Ok6 d := fun m d hd => O d (List.mem_of_mem_drop hd)
    have sb1 : gSubB (.int x) (.int 1) = some (.int (x - 1)) := by simp! [ap_newL, ap_listN, ap_opS, ap_unS, ap_appS, ap_setLS, ap_setDS, ap_get2S, ap_dispN, ap_newD0, ap_dictPN, ap_sortDK, ap_unp, ap_mtS, ap_dpopS, stOf_some, born_some, poke_some, lc_loc, Nat.zero_le, drf_int, drf_str, drf_non, drf_bl, drf_tup, drf_lst, drf_dct, nl_int, nl_str, nl_bl, nl_non, nl_loc, dct_of, seq_l, seq_t, isLs_l, ap_par2, ap_inS, ap_revS, lsOf_l, List.map_nil]
    have sb2 : gAddB (.int x) (.int 1) = some (.int (x + 1)) := by simp! [ap_newL, ap_listN, ap_opS, ap_unS, ap_appS, ap_setLS, ap_setDS, ap_get2S, ap_dispN, ap_newD0, ap_dictPN, ap_sortDK, ap_unp, ap_mtS, ap_dpopS, stOf_some, born_some, poke_some, lc_loc, Nat.zero_le, drf_int, drf_str, drf_non, drf_bl, drf_tup, drf_lst, drf_dct, nl_int, nl_str, nl_bl, nl_non, nl_loc, dct_of, seq_l, seq_t, isLs_l, ap_par2, ap_inS, ap_revS, lsOf_l, List.map_nil]
    have sb3 : gSubB (.int r.b) (.int 1) = some (.int (r.b - 1)) := by simp! [ap_newL, ap_listN, ap_opS, ap_unS, ap_appS, ap_setLS, ap_setDS, ap_get2S, ap_dispN, ap_newD0, ap_dictPN, ap_sortDK, ap_unp, ap_mtS, ap_dpopS, stOf_some, born_some, poke_some, lc_loc, Nat.zero_le, drf_int, drf_str, drf_non, drf_bl, drf_tup, drf_lst, drf_dct, nl_int, nl_str, nl_bl, nl_non, nl_loc, dct_of, seq_l, seq_t, isLs_l, ap_par2, ap_inS, ap_revS, lsOf_l, List.map_nil]
    by_cases h6 : v < 6
    · have hlt : gLt (.int v) (.int 6) = some (.bl true) := by rw [r_lt]; simp [h6]
      obtain ⟨y, k4, e4, hy, d4⟩ := pick_ok d3 ([.int (x - 1), .int (x + 1), .int (r.b - 1), .int r.b, .int (10 ^ 39), .int (-1), .bl (decide (x = 1)), od] ++ [.int (endZ r x)]) ⟨by simp, by simp⟩ (by omega)
      have a1 : gAddB (.tup ((ns.map D.int).take j)) (.tup [y]) = some (.tup ((ns.map D.int).take j ++ [y])) := r_addT (by rw [List.length_take]; simp; omega)
      have a2 : gAddB (.tup ((ns.map D.int).take j ++ [y])) (.tup ((ns.map D.int).drop (j + 1))) = some (.tup ((ns.map D.int).take j ++ [y] ++ (ns.map D.int).drop (j + 1))) := r_addT (by rw [List.length_append, List.length_take, List.length_drop]; simp; omega)
      obtain ⟨p5, s6⟩ := res_tup (xs := (ns.map D.int).take j ++ [y] ++ (ns.map D.int).drop (j + 1)) (fun d hd => by
        rcases List.mem_append.mp hd with hd | hd
        · rcases List.mem_append.mp hd with hd | hd
          · exact Ot _ d hd
          · rw [List.mem_singleton] at hd; subst hd; exact L _ hy
        · exact Od _ d hd) (by simp only [List.length_append, List.length_take, List.length_drop, List.length_singleton]; omega)
      refine ⟨_, k4, ?_, p5, s6, d4.mono (by omega)⟩
      unfold F__law_spoilt body__law_spoilt
      unfold endZ at ha e4
      cases he2 : r.e with
      | none =>
        rw [he2] at x4 ha e4
        simp! [ap_newL, ap_listN, ap_opS, ap_unS, ap_appS, ap_setLS, ap_setDS, ap_get2S, ap_dispN, ap_newD0, ap_dictPN, ap_sortDK, ap_unp, ap_mtS, ap_dpopS, stOf_some, born_some, poke_some, lc_loc, Nat.zero_le, drf_int, drf_str, drf_non, drf_bl, drf_tup, drf_lst, drf_dct, nl_int, nl_str, nl_bl, nl_non, nl_loc, dct_of, seq_l, seq_t, isLs_l, ap_par2, ap_inS, ap_revS, lsOf_l, ord, e1, q0, he, v0', gl, e2, x1, x2, x3, ix3, x4, optD, sb1, sb2, sb3, pow39, r_neg, e3, ha, hlt, s1, s2, e4, a1, a2, isNonD]
      | some e =>
        rw [he2] at x4 ha e4
        simp! [ap_newL, ap_listN, ap_opS, ap_unS, ap_appS, ap_setLS, ap_setDS, ap_get2S, ap_dispN, ap_newD0, ap_dictPN, ap_sortDK, ap_unp, ap_mtS, ap_dpopS, stOf_some, born_some, poke_some, lc_loc, Nat.zero_le, drf_int, drf_str, drf_non, drf_bl, drf_tup, drf_lst, drf_dct, nl_int, nl_str, nl_bl, nl_non, nl_loc, dct_of, seq_l, seq_t, isLs_l, ap_par2, ap_inS, ap_revS, lsOf_l, ord, e1, q0, he, v0', gl, e2, x1, x2, x3, ix3, x4, optD, sb1, sb2, sb3, pow39, r_neg, e3, ha, hlt, s1, s2, e4, a1, a2, isNonD]
    · have hlt : gLt (.int v) (.int 6) = some (.bl false) := by rw [r_lt]; simp [h6]
      have a1 : gAddB (.tup ((ns.map D.int).take j)) (.tup ((ns.map D.int).drop (j + 1))) = some (.tup ((ns.map D.int).take j ++ (ns.map D.int).drop (j + 1))) := r_addT (by rw [List.length_take, List.length_drop]; omega)
      have a2 : gAddB (.tup ((ns.map D.int).take (j + 1))) (.tup ((ns.map D.int).drop j)) = some (.tup ((ns.map D.int).take (j + 1) ++ (ns.map D.int).drop j)) := r_addT (by rw [List.length_take, List.length_drop]; omega)
      have a3 := listT_tup (xs := ns.map D.int) (by omega)
      have a4 : gRev (.tup (ns.map D.int)) = some (.tup (ns.map D.int).reverse) := r_rev
      obtain ⟨z, hz, P1, P2⟩ : ∃ z, gIx (.lst [.tup ((ns.map D.int).take j ++ (ns.map D.int).drop (j + 1)), .tup ((ns.map D.int).take (j + 1) ++ (ns.map D.int).drop j), .lst (ns.map D.int), .tup (ns.map D.int).reverse]) (.int (v - 6)) = some z ∧ Pl z ∧ Sh 8 3000 z := by
        have hv4 : v = 6 ∨ v = 7 ∨ v = 8 ∨ v = 9 := by omega
        rcases hv4 with rfl | rfl | rfl | rfl
        · exact ⟨_, rfl, res_tup (fun d hd => (List.mem_append.mp hd).elim (Ot _ d) (Od _ d)) (by simp only [List.length_append, List.length_take, List.length_drop]; omega)⟩
        · exact ⟨_, rfl, res_tup (fun d hd => (List.mem_append.mp hd).elim (Ot _ d) (Od _ d)) (by simp only [List.length_append, List.length_take, List.length_drop]; omega)⟩
        · exact ⟨_, rfl, res_lst O (by omega)⟩
        · exact ⟨_, rfl, res_tup (fun d hd => O d (List.mem_reverse.mp hd)) (by rw [List.length_reverse]; omega)⟩
      have sv : gSubB (.int v) (.int 6) = some (.int (v - 6)) := by simp! [ap_newL, ap_listN, ap_opS, ap_unS, ap_appS, ap_setLS, ap_setDS, ap_get2S, ap_dispN, ap_newD0, ap_dictPN, ap_sortDK, ap_unp, ap_mtS, ap_dpopS, stOf_some, born_some, poke_some, lc_loc, Nat.zero_le, drf_int, drf_str, drf_non, drf_bl, drf_tup, drf_lst, drf_dct, nl_int, nl_str, nl_bl, nl_non, nl_loc, dct_of, seq_l, seq_t, isLs_l, ap_par2, ap_inS, ap_revS, lsOf_l, List.map_nil]
      refine ⟨z, k3, ?_, P1, P2, d3.mono (by omega)⟩
      unfold F__law_spoilt body__law_spoilt
      unfold endZ at ha
      cases he2 : r.e with
      | none =>
        rw [he2] at x4 ha
        simp! [ap_newL, ap_listN, ap_opS, ap_unS, ap_appS, ap_setLS, ap_setDS, ap_get2S, ap_dispN, ap_newD0, ap_dictPN, ap_sortDK, ap_unp, ap_mtS, ap_dpopS, stOf_some, born_some, poke_some, lc_loc, Nat.zero_le, drf_int, drf_str, drf_non, drf_bl, drf_tup, drf_lst, drf_dct, nl_int, nl_str, nl_bl, nl_non, nl_loc, dct_of, seq_l, seq_t, isLs_l, ap_par2, ap_inS, ap_revS, lsOf_l, ord, e1, q0, he, v0', gl, e2, x1, x2, x3, ix3, x4, optD, sb1, sb2, sb3, pow39, r_neg, e3, ha, hlt, s1, s2, s4, s5, a1, a2, a3, a4, sv, hz, isNonD]
      | some e =>
        rw [he2] at x4 ha
        simp! [ap_newL, ap_listN, ap_opS, ap_unS, ap_appS, ap_setLS, ap_setDS, ap_get2S, ap_dispN, ap_newD0, ap_dictPN, ap_sortDK, ap_unp, ap_mtS, ap_dpopS, stOf_some, born_some, poke_some, lc_loc, Nat.zero_le, drf_int, drf_str, drf_non, drf_bl, drf_tup, drf_lst, drf_dct, nl_int, nl_str, nl_bl, nl_non, nl_loc, dct_of, seq_l, seq_t, isLs_l, ap_par2, ap_inS, ap_revS, lsOf_l, ord, e1, q0, he, v0', gl, e2, x1, x2, x3, ix3, x4, optD, sb1, sb2, sb3, pow39, r_neg, e3, ha, hlt, s1, s2, s4, s5, a1, a2, a3, a4, sv, hz, isNonD]
end
end W30
namespace W30
open PySem PySem.Spec L2
open WS hiding DkOk draw_ok
theorem inP_ints (is : List Int) (x : Int) : inP (.int x) (is.map .int) = some (decide (x ∈ is)) := by
  have t : ∀ ns : List Int, toPs (ns.map .int) = some (ns.map PyData.int) := fun ns => by
    induction ns with
    | nil => rfl
    | cons n r ih =>
      unfold toPs
      simp only [List.map_cons]
      show ((toP (.int n)).bind fun p => (toPs (r.map .int)).map fun q => p :: q) = _
      rw [ih]; rfl
  have lay : ∀ ns : List Int, PyData.canLayAll0 (ns.map PyData.int) = true ∧ PyData.depthAll (ns.map PyData.int) = 0 := fun ns => by
    induction ns with
    | nil => exact ⟨rfl, rfl⟩
    | cons n r ih => exact ⟨by show (true && _) = true; rw [ih.1]; rfl, by show max 0 _ = 0; rw [ih.2]; rfl⟩
  have shp : ∀ a : List Int, SeqAt.shaped (.list (a.map PyData.int)) = true := fun a => by
    obtain ⟨h1, h2⟩ := lay a
    show (PyData.canLayAll0 (a.map PyData.int) && decide (PyData.depthAll (a.map PyData.int) + 1 ≤ 64)) = true
    rw [h1, h2]; rfl
  have any : ((is.map PyData.int).any fun z => PyData.eqv z (.int x)) = decide (x ∈ is) := by
    rw [List.any_map, Bool.eq_iff_iff, List.any_eq_true, decide_eq_true_eq]
    constructor
    · rintro ⟨i, hi, h⟩
      have : (i == x) = true := h
      rw [beq_iff_eq] at this
      subst this; exact hi
    · intro h
      exact ⟨x, h, by show (x == x) = true; simp⟩
  show ((toP (.int x)).bind fun p => (toPs (is.map .int)).bind fun q => if SeqAt.shaped p = true ∧ SeqAt.shaped (.list q) = true then some (q.any fun z => PyData.eqv z p) else none) = _
  rw [t, show toP (.int x) = some (.int x) from rfl, Option.bind_some, Option.bind_some, if_pos ⟨by rfl, shp is⟩, any]
theorem nin_ord (o : List Nat) (n : Nat) : gNotIn (nD n) (.tup (o.map nD)) = some (.bl (!decide (n ∈ o))) := by
  have e : o.map nD = (o.map fun n : Nat => (n : Int)).map D.int := by rw [List.map_map]; rfl
  show ((inP (.int (n : Int)) (o.map nD)).map fun b => D.bl (true != b)) = _
  rw [e, inP_ints, Option.map_some]
  have : decide ((n : Int) ∈ o.map fun n : Nat => (n : Int)) = decide (n ∈ o) := by
    congr 1
    simp only [List.mem_map, eq_iff_iff]
    refine ⟨fun ⟨a, h, e⟩ => ?_, fun h => ⟨n, h, rfl⟩⟩
    obtain rfl : a = n := by omega
    exact h
  rw [this]
  cases decide (n ∈ o) <;> rfl
theorem sh_small {i : Int} {n w : Nat} (h : -10000000 ≤ i ∧ i ≤ 10000000) : Sh n w (.int i) := sh_int (by
  have : i.natAbs ≤ 10000000 := by omega
  exact Nat.le_trans this (by decide))
theorem sh_word {x : Str} (h : asc x = true) (hl : bk (.str x) ≤ 20) {n : Nat} : Sh n 20 (.str x) := (Sh.of_lf (d := .str x) h).mono (Nat.zero_le _) hl
theorem Dd.sh {s : Str} {d : D} (h : Dd s d) : Sh 2 63 d := by
  have t1 : ∀ {a : D}, Sh 1 20 a → Sh 2 63 (.tup [a]) := fun {a} ha => sh_tup (n := 1) (w := 20) (fun d hd => by
    rw [List.mem_singleton] at hd; subst hd; exact ha) (by omega) (by simp)
  have t2 : ∀ {a b : D}, Sh 1 20 a → Sh 1 20 b → Sh 2 63 (.tup [a, b]) := fun {a b} ha hb => sh_tup (n := 1) (w := 20) (fun d hd => by
    simp only [List.mem_cons, List.not_mem_nil, or_false] at hd
    rcases hd with rfl | rfl
    · exact ha
    · exact hb) (by omega) (by simp)
  have t3 : ∀ {a b c : D}, Sh 1 20 a → Sh 1 20 b → Sh 1 20 c → Sh 2 63 (.tup [a, b, c]) := fun {a b c} ha hb hc => sh_tup (n := 1) (w := 20) (fun d hd => by
    simp only [List.mem_cons, List.not_mem_nil, or_false] at hd
    rcases hd with rfl | rfl | rfl
    · exact ha
    · exact hb
    · exact hc) (by omega) (by simp)
  cases h with
  | up => exact t1 (sh_word (by decide +kernel) (by decide +kernel))
  | look => exact t1 (sh_word (by decide +kernel) (by decide +kernel))
  | put h => exact t2 (sh_word (by decide +kernel) (by decide +kernel)) (sh_small (by omega))
  | take => exact t1 (sh_word (by decide +kernel) (by decide +kernel))
  | push h => exact t2 (sh_word (by decide +kernel) (by decide +kernel)) (sh_small (by omega))
  | pop => exact t1 (sh_word (by decide +kernel) (by decide +kernel))
  | sadd h => exact t2 (sh_word (by decide +kernel) (by decide +kernel)) (sh_small (by omega))
  | sdrop h => exact t2 (sh_word (by decide +kernel) (by decide +kernel)) (sh_small (by omega))
  | shas h => exact t2 (sh_word (by decide +kernel) (by decide +kernel)) (sh_small (by omega))
  | madd h h2 => exact t3 (sh_word (by decide +kernel) (by decide +kernel)) (sh_small (by omega)) (sh_small (by omega))
  | mdrop h => exact t2 (sh_word (by decide +kernel) (by decide +kernel)) (sh_small (by omega))
  | mget h => exact t2 (sh_word (by decide +kernel) (by decide +kernel)) (sh_small (by omega))
theorem Hst.sh {s : Str} {rows : List Row} {o : List Nat} (H : Hst s rows o) : Sh 4 4000 (histD rows) :=
  sh_tup (n := 3) (w := 320) (fun d hd => by
    obtain ⟨r, hr, rfl⟩ := List.mem_map.mp hd
    obtain ⟨h1, h2, h3, h4, h5⟩ := H.rb r hr
    refine sh_tup (n := 2) (w := 63) (fun d hd => ?_) (by omega) (by simp [rowL])
    simp only [rowL, List.mem_cons, List.not_mem_nil, or_false] at hd
    rcases hd with rfl | rfl | rfl | rfl | rfl
    · exact sh_small (by omega)
    · exact h2.sh
    · rcases h3 with e | ⟨t, e, t1, t2⟩ <;> rw [e]
      · exact sh_non
      · exact sh_small (by omega)
    · exact sh_small (by omega)
    · cases he : r.e with
      | none => exact sh_non
      | some e =>
        have := h5 e he
        exact sh_small (by omega)) (by omega) (by have := H.len; rw [List.length_map]; omega)
theorem sh_ord {o : List Nat} {m : Nat} (h : ∀ n ∈ o, n < m) (hm : m ≤ 1000) (hl : o.length ≤ 1000) : Sh 4 1000 (ordD o) :=
  sh_tup (n := 3) (w := 0) (fun d hd => by
    obtain ⟨n, hn, rfl⟩ := List.mem_map.mp hd
    have := h n hn
    exact sh_small (by omega)) (by omega) (by rw [List.length_map]; omega)
theorem sh_three {a b c : D} (ha : Sh 4 4000 a) (hb : Sh 4 1000 b) (hc : Sh 8 3000 c) : ∃ x, gRepr [.tup [a, b, c]] = some (.str x) :=
  Sh.repr (n := 9) (w := 12100) (sh_tup (n := 8) (w := 4000) (fun d hd => by
    simp only [List.mem_cons, List.not_mem_nil, or_false] at hd
    rcases hd with rfl | rfl | rfl
    · exact ha.mono (by omega) (by omega)
    · exact hb.mono (by omega) (by omega)
    · exact hc.mono (by omega) (by omega)) (by omega) (by simp)) (by omega) (by omega)
theorem sh_bool (b : Bool) : ∃ x, gRepr [.bl b] = some (.str x) := Sh.repr (n := 0) (w := 0) sh_bl (by omega) (by omega)
section
variable {rows rs : List Row} {o : List Nat} (R : Rws rows o rs) (ho : o.length ≤ 1000) (hb : ∀ r ∈ rs, 0 ≤ r.b)
include R ho hb
theorem case_ok {d : D} (hp : Pl d) {x : Str} (hx : gRepr [.tup [histD rows, ordD o, d]] = some (.str x)) {a0 a1 a2 a3 a5 a6 a8 a9 a11 a12 : Sl} {k : Dk} :
    L1_law [a0, a1, a2, a3, .val (histD rows), a5, a6, .val (ordD o), a8, a9, .val d, a11, a12] k = some (.nx, [a0, a1, a2, a3, .val (histD rows), a5, a6, .val (ordD o), a8, a9, .val d, .val (.str x), a12], k) := by
  have e1 := held_ok R ho hp hb k
  have e2 := due_ok R ho hp k
  obtain ⟨y, hy⟩ := sh_bool (holdsB rs d)
  unfold L1_law
  simp! [ap_newL, ap_listN, ap_opS, ap_unS, ap_appS, ap_setLS, ap_setDS, ap_get2S, ap_dispN, ap_newD0, ap_dictPN, ap_sortDK, ap_unp, ap_mtS, ap_dpopS, stOf_some, born_some, poke_some, lc_loc, Nat.zero_le, drf_int, drf_str, drf_non, drf_bl, drf_tup, drf_lst, drf_dct, nl_int, nl_str, nl_bl, nl_non, nl_loc, dct_of, seq_l, seq_t, isLs_l, ap_par2, ap_inS, ap_revS, lsOf_l, e1, e2, hx, hy]
end
end W30
namespace W30
open PySem PySem.Spec L2
open WS hiding DkOk draw_ok
theorem deck2_ok (ns : List Int) : ∃ k, F_deck2 [.rdl (ns.map D.int)] none = some (.deck, k) ∧ DkS [] 0 k := by
  refine ⟨some (ns.take 63, 0, (ns.take 63).sum % 2147483629 + ((ns.take 63).length : Int), []), ?_, _, _, _, rfl, ?_, by omega, by omega⟩
  · show ((intsOf (ns.map D.int)).map fun ns => (D.deck, some (ns.take 63, (0 : Int), (ns.take 63).sum % 2147483629 + ((ns.take 63).length : Int), ([] : List D)))) = _
    rw [intsOf_ints]; rfl
  · rw [List.length_take]; omega
def rowsOf (rows : List Row) (o : List Nat) : List Row := o.map fun n => (rows[n]?).getD ⟨0, .non, .non, 0, none⟩
section
variable {s : Str} {rows : List Row} {o o2 : List Nat} (H : Hst s rows o) (hn : ∀ x ∈ o2, x < rows.length ∧ x ∉ o)
include H hn
theorem ord_lt {x : Nat} (hx : x ∈ o ++ o2) : x < rows.length := (List.mem_append.mp hx).elim (H.ol x) fun h => (hn x h).1
theorem rws_of : Rws rows (o ++ o2) (rowsOf rows (o ++ o2)) := by
  refine ⟨by simp [rowsOf], fun j n hj => ?_⟩
  have hl := ord_lt H hn (List.mem_of_getElem? hj)
  refine ⟨rows[n], List.getElem?_eq_getElem hl, ?_⟩
  unfold rowsOf
  rw [List.getElem?_map, hj, Option.map_some, List.getElem?_eq_getElem hl]; rfl
theorem rows_mem {r : Row} (h : r ∈ rowsOf rows (o ++ o2)) : r ∈ rows := by
  obtain ⟨n, hx, rfl⟩ := List.mem_map.mp h
  have hl := ord_lt H hn hx
  rw [List.getElem?_eq_getElem hl]
  exact List.getElem_mem hl
theorem fit_of : Fit 5000 (rowsOf rows (o ++ o2)) := by
  refine ⟨fun r hr => (H.rb r (rows_mem H hn hr)).1, fun i j a b e hij ha hb he => ?_⟩
  have R := rws_of H hn
  have hil : i < (o ++ o2).length := by rw [← R.len]; exact (List.getElem?_eq_some_iff.mp ha).1
  have hjl : j < (o ++ o2).length := by rw [← R.len]; exact (List.getElem?_eq_some_iff.mp hb).1
  obtain ⟨a', ha1, ha2⟩ := R.at_ i _ (List.getElem?_eq_getElem hil)
  obtain ⟨b', hb1, hb2⟩ := R.at_ j _ (List.getElem?_eq_getElem hjl)
  rw [ha] at ha2; rw [hb] at hb2
  cases ha2; cases hb2
  have hjo : (o ++ o2)[j] ∈ o := H.en _ _ hb1 (by rw [he]; simp)
  have hj : j < o.length := by
    by_cases h : j < o.length
    · exact h
    · rw [List.getElem_append_right (by omega)] at hjo
      exact absurd hjo (hn _ (List.getElem_mem _)).2
  have hi : i < o.length := by omega
  have ei : (o ++ o2)[i] = o[i] := List.getElem_append_left hi
  have ej : (o ++ o2)[j] = o[j] := List.getElem_append_left hj
  rw [ei] at ha1; rw [ej] at hb1
  by_cases h : i = j
  · subst h
    exact H.self _ (List.getElem_mem hi) _ _ _ ha1 hb1 he
  · exact (List.pairwise_iff_getElem.mp H.pw i j hi hj (by omega)) _ _ _ ha1 hb1 he
end
theorem pair45 {p q : D} {s0 s1 s2 s3 s4 s5 s6 s7 s8 s9 s10 s11 s12 : Sl} : gPair (gSet 4) (gSet 5) (.tup [p, q]) [s0, s1, s2, s3, s4, s5, s6, s7, s8, s9, s10, s11, s12] = some [s0, s1, s2, s3, .val p, .val q, s6, s7, s8, s9, s10, s11, s12] := rfl
theorem specs_ok (k : Dk) : F__law_specs [] k = some (.lst [.str "count", .str "set", .str "queue", .str "stack", .str "map"], k) := by
  unfold F__law_specs body__law_specs
  simp! [ap_newL, ap_listN, ap_opS, ap_unS, ap_appS, ap_setLS, ap_setDS, ap_get2S, ap_dispN, ap_newD0, ap_dictPN, ap_sortDK, ap_unp, ap_mtS, ap_dpopS, stOf_some, born_some, poke_some, lc_loc, Nat.zero_le, drf_int, drf_str, drf_non, drf_bl, drf_tup, drf_lst, drf_dct, nl_int, nl_str, nl_bl, nl_non, nl_loc, dct_of, seq_l, seq_t, isLs_l, ap_par2, ap_inS, ap_revS, lsOf_l, List.map_nil]
theorem sl_3 {xs : List D} : gSl (.lst xs) none (some 3) = some (.lst (xs.take 3)) := by
  show some (D.lst (cutD xs none (some 3))) = _
  rw [cut_to (by decide)]
  rfl
theorem turn_ok {st : List D} {n : Nat} {k : Dk} (dk : DkS st n k) (hn : n < 1000000) (s0 s2 s3 s4 s5 s6 s7 s8 s9 s10 s11 : Sl) :
    ∃ s3' s4' s5' s6' s7' s8' s9' s10' s11' st' k', L2_law [s0, .val .deck, s2, s3, s4, s5, s6, s7, s8, s9, s10, s11, .no] k = some (.nx, [s0, .val .deck, s2, s3', s4', s5', s6', s7', s8', s9', s10', s11', .no], k') ∧ DkS st' (n + 2000) k' := by
  have es := specs_ok k
  obtain ⟨sp, k1, e1, hsp, d1⟩ := pick_ok dk [.str "count", .str "set", .str "queue", .str "stack", .str "map"] ⟨by simp, by simp⟩ (by omega)
  obtain ⟨s, rfl, hs⟩ : ∃ s, sp = .str s ∧ Sp s := by
    simp only [List.mem_cons, List.not_mem_nil, or_false] at hsp
    unfold Sp
    rcases hsp with rfl | rfl | rfl | rfl | rfl <;> exact ⟨_, rfl, by simp⟩
  obtain ⟨h, k2, e2, h0, h4, d2⟩ := draw_ok d1 4 ⟨by omega, by omega⟩ (by omega)
  obtain ⟨m, k3, e3, m0, m1, d3⟩ := draw_ok d2 10 ⟨by omega, by omega⟩ (by omega)
  obtain ⟨rows, o, k4, st4, e4, d4, H⟩ := hist_ok hs (H := 1 + h) (M := 1 + m) (by omega) (by omega) d3 (by omega)
  have hrl := H.len
  have hol := H.om
  have ord : ordD o = .tup (o.map nD) := rfl
  have gl : gLen [histD rows] = some (.int (rows.length : Int)) := by
    show gLen [.tup (rows.map rowD)] = _
    rw [r_lenT, List.length_map]
  have rg := range0 (n := rows.length) (by omega)
  have rz : (((List.range rows.length).map nD).length < sizeLine) = True := eq_true (by rw [List.length_map, List.length_range, sizeLine_eq]; omega)
  let left := (List.range rows.length).filter fun n => !decide (n ∈ o)
  have lc := comp_pure (vs := [12]) (g := gSet 12) (tt := eOp gNotIn (eVar 12) (eVar 5)) (elt := eVar 12) (ρ := [s0, .val .deck, s2, .val (.str s), .val (histD rows), .val (.tup (o.map nD)), s6, s7, s8, s9, s10, s11, .no]) (k := k4) (fun d => match d with
      | .int i => !decide (i.toNat ∈ o)
      | _ => false) id ((List.range rows.length).map nD) fun d hd => by
    obtain ⟨x, hx, rfl⟩ := List.mem_map.mp hd
    refine ⟨_, [s0, .val .deck, s2, .val (.str s), .val (histD rows), .val (.tup (o.map nD)), s6, s7, s8, s9, s10, s11, .val (nD x)], rfl, ?_, fun _ => ⟨_, rfl, rfl⟩, fun _ => rfl⟩
    simp! [ap_newL, ap_listN, ap_opS, ap_unS, ap_appS, ap_setLS, ap_setDS, ap_get2S, ap_dispN, ap_newD0, ap_dictPN, ap_sortDK, ap_unp, ap_mtS, ap_dpopS, stOf_some, born_some, poke_some, lc_loc, Nat.zero_le, drf_int, drf_str, drf_non, drf_bl, drf_tup, drf_lst, drf_dct, nl_int, nl_str, nl_bl, nl_non, nl_loc, dct_of, seq_l, seq_t, isLs_l, ap_par2, ap_inS, ap_revS, lsOf_l, nin_ord]
    rfl
  have lft : (((List.range rows.length).map nD).filter (fun d => match d with
      | .int i => !decide (i.toNat ∈ o)
      | _ => false)).map id = left.map nD := by
    rw [List.map_id, List.filter_map]
    rfl
  rw [lft] at lc
  have hll : left.length ≤ 10 := by
    have := List.length_filter_le (fun n => !decide (n ∈ o)) (List.range rows.length)
    rw [List.length_range] at this
    exact Nat.le_trans this hrl
  have hlm : ∀ x ∈ left, x < rows.length ∧ x ∉ o := fun x hx => by
    obtain ⟨h1, h2⟩ := List.mem_filter.mp hx
    exact ⟨List.mem_range.mp h1, by simpa using h2⟩
  obtain ⟨o', st5, k5, e5, d5, ho', hl'⟩ := law_turned d4 (o := left) (by omega) (by omega)
  obtain ⟨t, k6, e6, t0, t2, d6⟩ := draw_ok d5 2 ⟨by omega, by omega⟩ (by omega)
  obtain ⟨o2, em, hm2, hl2⟩ : ∃ o2 : List Nat, gMulB (.tup (o'.map nD)) (.int t) = some (.tup (o2.map nD)) ∧ (∀ x ∈ o2, x ∈ o') ∧ o2.length ≤ 10 := by
    have ht : t = 0 ∨ t = 1 := by omega
    rcases ht with rfl | rfl
    · exact ⟨[], by rw [r_mulT ⟨by omega, by omega, by rw [List.length_map]; omega⟩]; rfl, by simp, by simp⟩
    · exact ⟨o', by rw [r_mulT ⟨by omega, by omega, by rw [List.length_map]; omega⟩]; simp, fun _ h => h, by omega⟩
  have hn2 : ∀ x ∈ o2, x < rows.length ∧ x ∉ o := fun x hx => hlm x (ho' x (hm2 x hx))
  have R := rws_of H hn2
  have F := fit_of H hn2
  have hrb : ∀ r ∈ rowsOf rows (o ++ o2), 0 ≤ r.b := fun r hr => (H.rb r (rows_mem H hn2 hr)).1.1
  have hre : ∀ r ∈ rowsOf rows (o ++ o2), ∀ e, r.e = some e → 0 ≤ e ∧ e ≤ 5000 := fun r hr => (H.rb r (rows_mem H hn2 hr)).2.2.2.2
  have hOl : (o ++ o2).length ≤ 60 := by rw [List.length_append]; omega
  have ea : gAddB (.tup (o.map nD)) (.tup (o2.map nD)) = some (ordD (o ++ o2)) := by
    rw [r_addT (by rw [List.length_map, List.length_map]; omega), ← List.map_append]; rfl
  obtain ⟨ns, st7, k7, e7, K, d7⟩ := steps_ok R (by omega) F d6 (by omega)
  have e8 := held_ok R (by omega) (pl_ints ns) hrb k7
  rw [K.holds] at e8
  have hnl : ns.length ≤ 60 := by rw [K.len, R.len]; exact hOl
  have hrS := H.sh
  have hoS := sh_ord (fun x hx => ord_lt H hn2 hx) (by omega) (show (o ++ o2).length ≤ 1000 by omega)
  generalize hO : o ++ o2 = O at *
  have rg10 : gRange1 [.int 10] = some ((List.range 10).map nD) := range0 (n := 10) (by omega)
  have rz10 : (((List.range 10).map nD).length < sizeLine) = True := eq_true (by rw [List.length_map, List.length_range, sizeLine_eq]; omega)
  obtain ⟨cs, k9, e9, A, d9⟩ := comp_runN (vs := [12]) (g := gSet 12) (tt := eC (.bl true)) (elt := eCallF 4 F__law_spoilt (aCons (eVar 1) (aCons (eVar 4) (aCons (eVar 7) (aCons (eVar 8) (aNil)))))) (ρ := [s0, .val .deck, s2, .val (.str s), .val (histD rows), .val (.tup (o.map nD)), .val (.lst (left.map nD)), .val (ordD O), .val (.tup (ns.map .int)), s9, s10, s11, .no])
    (fun i k => DkS st7 (n + 1000 + 4 * i) k) (fun _ e => Pl e ∧ Sh 8 3000 e) ((List.range 10).map nD) 0 k7 (d7.mono (by omega)) fun i d hd k hk => by
      rw [Nat.zero_add] at hk ⊢
      have hi : i < 10 := by
        have := (List.getElem?_eq_some_iff.mp hd).1
        simpa using this
      obtain ⟨x, k', e, p, sh, dk'⟩ := spoilt_ok R (by omega) F hre K hk (by omega)
      refine ⟨_, _, [s0, .val .deck, s2, .val (.str s), .val (histD rows), .val (.tup (o.map nD)), .val (.lst (left.map nD)), .val (ordD O), .val (.tup (ns.map .int)), s9, s10, s11, .val d], x, k', rfl, rfl, ?_, rfl, ⟨p, sh⟩, dk'.mono (by omega)⟩
      simp! [ap_newL, ap_listN, ap_opS, ap_unS, ap_appS, ap_setLS, ap_setDS, ap_get2S, ap_dispN, ap_newD0, ap_dictPN, ap_sortDK, ap_unp, ap_mtS, ap_dpopS, stOf_some, born_some, poke_some, lc_loc, Nat.zero_le, drf_int, drf_str, drf_non, drf_bl, drf_tup, drf_lst, drf_dct, nl_int, nl_str, nl_bl, nl_non, nl_loc, dct_of, seq_l, seq_t, isLs_l, ap_par2, ap_inS, ap_revS, lsOf_l, e]
  have hcs : ∀ e ∈ cs, Pl e ∧ Sh 8 3000 e := A.right fun _ _ h => h
  have hcl : cs.length = 10 := by rw [← A.length]; simp
  have a1 : gAddB (.lst cs) (.lst [.tup (ns.map .int)]) = some (.lst (cs ++ [.tup (ns.map .int)])) := r_addL (by rw [hcl]; simp)
  have a2 : gAddB (.lst (cs ++ [.tup (ns.map .int)])) (.lst (cs.take 3)) = some (.lst (cs ++ [.tup (ns.map .int)] ++ cs.take 3)) := r_addL (by rw [List.length_append, List.length_take, hcl]; simp)
  have hall : ∀ d ∈ cs ++ [.tup (ns.map .int)] ++ cs.take 3, Pl d ∧ Sh 8 3000 d := fun d hd => by
    rcases List.mem_append.mp hd with hd | hd
    · rcases List.mem_append.mp hd with hd | hd
      · exact hcs d hd
      · rw [List.mem_singleton] at hd
        rw [hd]
        exact ⟨pl_ints ns, (sh_ints K.bd (by omega)).mono (by omega) (by omega)⟩
    · exact hcs d (List.mem_of_mem_take hd)
  have az : ((cs ++ [D.tup (ns.map .int)] ++ cs.take 3).length < sizeLine) = True := eq_true (by rw [List.length_append, List.length_append, List.length_take, hcl, sizeLine_eq]; simp)
  obtain ⟨ρ', k10, f1, f2⟩ := for_inv (g := gSet 10) (body := L1_law) (fun _ ρ k => k = k9 ∧ ∃ s10 s11, ρ = [s0, .val .deck, s2, .val (.str s), .val (histD rows), .val (.tup (o.map nD)), .val (.lst (left.map nD)), .val (ordD O), .val (.tup (ns.map .int)), .val (.lst cs), s10, s11, .no]) (cs ++ [.tup (ns.map .int)] ++ cs.take 3) 0 [s0, .val .deck, s2, .val (.str s), .val (histD rows), .val (.tup (o.map nD)), .val (.lst (left.map nD)), .val (ordD O), .val (.tup (ns.map .int)), .val (.lst cs), s10, s11, .no] k9 ⟨rfl, _, _, rfl⟩ fun i d hd ρ k hI => by
    obtain ⟨rfl, s10, s11, rfl⟩ := hI
    obtain ⟨hp, hsh⟩ := hall d (List.mem_of_getElem? hd)
    obtain ⟨x, hx⟩ := sh_three hrS hoS hsh
    exact ⟨_, _, k, rfl, case_ok R (by omega) hrb hp hx, rfl, _, _, rfl⟩
  obtain ⟨hk9, s10', s11', hρ⟩ := f2
  rw [hk9, hρ] at f1
  have w1 : wipeS [s0, Sl.val .deck, s2, .val (.str s), .val (histD rows), .val (.tup (o.map nD)), s6, s7, s8, s9, s10, s11, .no] [12] = [s0, .val .deck, s2, .val (.str s), .val (histD rows), .val (.tup (o.map nD)), s6, s7, s8, s9, s10, s11, .no] := rfl
  have w2 : wipeS [s0, Sl.val .deck, s2, .val (.str s), .val (histD rows), .val (.tup (o.map nD)), .val (.lst (left.map nD)), .val (ordD O), .val (.tup (ns.map .int)), s9, s10, s11, .no] [12] = [s0, .val .deck, s2, .val (.str s), .val (histD rows), .val (.tup (o.map nD)), .val (.lst (left.map nD)), .val (ordD O), .val (.tup (ns.map .int)), s9, s10, s11, .no] := rfl
  have tl : gTuple [.lst (o'.map nD)] = some (.tup (o'.map nD)) := rfl
  refine ⟨.val (.str s), .val (histD rows), .val (.tup (o.map nD)), .val (.lst (left.map nD)), .val (ordD O), .val (.tup (ns.map .int)), .val (.lst cs), s10', s11', st7, k9, ?_, d9.mono (by simp)⟩
  unfold L2_law
  simp! [ap_newL, ap_listN, ap_opS, ap_unS, ap_appS, ap_setLS, ap_setDS, ap_get2S, ap_dispN, ap_newD0, ap_dictPN, ap_sortDK, ap_unp, ap_mtS, ap_dpopS, stOf_some, born_some, poke_some, lc_loc, Nat.zero_le, drf_int, drf_str, drf_non, drf_bl, drf_tup, drf_lst, drf_dct, nl_int, nl_str, nl_bl, nl_non, nl_loc, dct_of, seq_l, seq_t, isLs_l, ap_par2, ap_inS, ap_revS, lsOf_l, es, e1, e2, e3, e4, pair45, ord, gl, rg, rz, w1, lc, e5, e6, tl, em, ea, e7, e8, rg10, rz10, w2, e9, a1, sl_3, a2, az, f1]
theorem law_true (ns : List Int) : ∃ k', F_law [.rdl (ns.map D.int)] none = some (.bl true, k') := by
  obtain ⟨k0, hd, d0⟩ := deck2_ok ns
  have r3 : gRange1 [.int 3] = some ((List.range 3).map nD) := range0 (n := 3) (by omega)
  have lo : (((List.range 3).map nD).length < sizeLine) = True := eq_true (by rw [List.length_map, List.length_range, sizeLine_eq]; omega)
  obtain ⟨ρ', k', e1, s2, s3, s4, s5, s6, s7, s8, s9, s10, s11, S', rfl, _⟩ := for_inv (g := gSet 2) (body := L2_law) (fun i ρ k => ∃ s2 s3 s4 s5 s6 s7 s8 s9 s10 s11 S, ρ = [.val (.rdl (ns.map D.int)), .val .deck, s2, s3, s4, s5, s6, s7, s8, s9, s10, s11, .no] ∧ DkS S (2000 * i) k)
    ((List.range 3).map nD) 0 [.val (.rdl (ns.map D.int)), .val .deck, .no, .no, .no, .no, .no, .no, .no, .no, .no, .no, .no] k0 ⟨_, _, _, _, _, _, _, _, _, _, [], rfl, d0⟩ (fun i x hx ρ k ⟨s2, s3, s4, s5, s6, s7, s8, s9, s10, s11, S, e, hk⟩ => by
      have hi : i < 3 := by
        have := (List.getElem?_eq_some_iff.mp hx).1
        simpa using this
      subst e
      rw [Nat.zero_add] at hk ⊢
      obtain ⟨s3', s4', s5', s6', s7', s8', s9', s10', s11', S', k', e, hk'⟩ := turn_ok hk (by omega) (.val (.rdl (ns.map D.int))) (.val x) s3 s4 s5 s6 s7 s8 s9 s10 s11
      exact ⟨_, _, k', rfl, e, _, _, _, _, _, _, _, _, _, _, S', rfl, hk'.mono (by omega)⟩)
  refine ⟨k', ?_⟩
  unfold F_law body_law
  simp! [ap_newL, ap_listN, ap_opS, ap_unS, ap_appS, ap_setLS, ap_setDS, ap_get2S, ap_dispN, ap_newD0, ap_dictPN, ap_sortDK, ap_unp, ap_mtS, ap_dpopS, stOf_some, born_some, poke_some, lc_loc, Nat.zero_le, drf_int, drf_str, drf_non, drf_bl, drf_tup, drf_lst, drf_dct, nl_int, nl_str, nl_bl, nl_non, nl_loc, dct_of, seq_l, seq_t, isLs_l, ap_par2, ap_inS, ap_revS, lsOf_l, hd, r3, lo, e1]
end W30
open PySem PySem.W PyProof.Rows
namespace W30
open PySem PySem.Spec PyProof.Rows L2 WS
theorem fx_mk {P : Program} {w : World} {K : PySem.W.Frag} {mg : Str → Option Value} {h : Heap} (KX : K.In h) (G : h.Ns mainGlobals mg)
  (f_is_step : Df K mg "is_step" (topS 1))
  (f_is_within : Df K mg "is_within" (topS 2))
  (f_held_holds : Df K mg "held_holds" (topS 3))
  (f__law_deck : Df K mg "_law_deck" (topS 5))
  (f__law_draw : Df K mg "_law_draw" (topS 6))
  (f__law_pick : Df K mg "_law_pick" (topS 7))
  (f__law_specs : Df K mg "_law_specs" (topS 8))
  (f__law_first : Df K mg "_law_first" (topS 9))
  (f__law_deed : Df K mg "_law_deed" (topS 10))
  (f__law_ways : Df K mg "_law_ways" (topS 11))
  (f__law_history : Df K mg "_law_history" (topS 12))
  (f__law_whole : Df K mg "_law_whole" (topS 14))
  (f__law_odd : Df K mg "_law_odd" (topS 15))
  (f__law_turned : Df K mg "_law_turned" (topS 16))
  (f__law_due : Df K mg "_law_due" (topS 17))
  (f__law_latest : Df K mg "_law_latest" (topS 18))
  (f__law_steps : Df K mg "_law_steps" (topS 19))
  (f__law_spoilt : Df K mg "_law_spoilt" (topS 20))
  (f_law : Df K mg "law" (topS 21))
  (b_all : mg "all" = none)
  (b_bool : mg "bool" = none)
  (b_dict : mg "dict" = none)
  (b_int : mg "int" = none)
  (b_isinstance : mg "isinstance" = none)
  (b_len : mg "len" = none)
  (b_list : mg "list" = none)
  (b_max : mg "max" = none)
  (b_min : mg "min" = none)
  (b_range : mg "range" = none)
  (b_repr : mg "repr" = none)
  (b_sorted : mg "sorted" = none)
  (b_sum : mg "sum" = none)
  (b_tuple : mg "tuple" = none)
  (b_zip : mg "zip" = none) : Fx P w K mg := { f_is_step := f_is_step, f_is_within := f_is_within, f_held_holds := f_held_holds, f__law_deck := f__law_deck, f__law_draw := f__law_draw, f__law_pick := f__law_pick, f__law_specs := f__law_specs, f__law_first := f__law_first, f__law_deed := f__law_deed, f__law_ways := f__law_ways, f__law_history := f__law_history, f__law_whole := f__law_whole, f__law_odd := f__law_odd, f__law_turned := f__law_turned, f__law_due := f__law_due, f__law_latest := f__law_latest, f__law_steps := f__law_steps, f__law_spoilt := f__law_spoilt, f_law := f_law, b_all := b_all, b_bool := b_bool, b_dict := b_dict, b_int := b_int, b_isinstance := b_isinstance, b_len := b_len, b_list := b_list, b_max := b_max, b_min := b_min, b_range := b_range, b_repr := b_repr, b_sorted := b_sorted, b_sum := b_sum, b_tuple := b_tuple, b_zip := b_zip }
theorem top_of {P : Program} {w : World} {K : PySem.W.Frag} {mg : Str → Option Value} {fa : Addr} (C : Fx P w K mg) (hm : mg "law" = some (.ref fa)) :
    ∃ fd : FuncData, (∀ (s : Shared) (u : Value), BindsTo s fd ⟨[u], []⟩ [("_law_script", u)]) ∧ ∀ base : Heap, K.In base → base.Ns mainGlobals mg → FnG P w K mg base CX0 5 fa fd ["_law_script"] (spS K 1 F_law) := by
  obtain ⟨f, fd, Fu, m⟩ := C.f_law
  rw [hm] at m
  cases m
  exact ⟨fd, fun s u => WS.fun_bind Fu (fun _ _ _ _ _ _ _ => rfl) s u, fun base _ _ => at_law C Fu⟩
end W30
set_option maxHeartbeats 0 in
theorem PySem.Challenge.cw_weavesafe_k30_steps_of_any_hand_holds : PySem.Challenge.rw_weavesafe_k30_steps_of_any_hand.Holds := by
  w_on; o_law
  k_head
  (case hw => w_witness2)
  k_fill
  refine WS.walkGK (l := PySem.Challenge.rw_weavesafe_k30_steps_of_any_hand) (n := 63) (k := 5) (x := "_law_script") (CX := L2.CX0) (sp := fun K => WS.spS K 1 W30.F_law) rfl (by decide) rfl ⟨rfl, by decide, by decide⟩ (fun w h Y => PySem.W.kIn_of Y) ?F (fun K H a ns h1 h2 h3 => WS.sp_true (fun ns hl => W30.law_true ns) K H a ns h1 h2 h3) (fun _ _ _ _ h => h)
  case F =>
    intro w mg fa h KX G hmg
    refine' W30.top_of (P := PySem.Challenge.pw_weavesafe_k30_steps_of_any_hand) (w := w) (W30.fx_mk (w := w) KX G ?f_is_step ?f_is_within ?f_held_holds ?f__law_deck ?f__law_draw ?f__law_pick ?f__law_specs ?f__law_first ?f__law_deed ?f__law_ways ?f__law_history ?f__law_whole ?f__law_odd ?f__law_turned ?f__law_due ?f__law_latest ?f__law_steps ?f__law_spoilt ?f_law ?b_all ?b_bool ?b_dict ?b_int ?b_isinstance ?b_len ?b_list ?b_max ?b_min ?b_range ?b_repr ?b_sorted ?b_sum ?b_tuple ?b_zip) hmg
    case f_is_step =>
      refine' WS.df_mk KX G ?q1 ?q2 ?q3 ?q4
      (case q1 => k_is)
      (case q2 => k_is)
      (case q3 => k_is)
      (case q4 => k_is)
    case f_is_within =>
      refine' WS.df_mk KX G ?q5 ?q6 ?q7 ?q8
      (case q5 => k_is)
      (case q6 => k_is)
      (case q7 => k_is)
      (case q8 => k_is)
    case f_held_holds =>
      refine' WS.df_mk KX G ?q9 ?q10 ?q11 ?q12
      (case q9 => k_is)
      (case q10 => k_is)
      (case q11 => k_is)
      (case q12 => k_is)
    case f__law_deck =>
      refine' WS.df_mk KX G ?q13 ?q14 ?q15 ?q16
      (case q13 => k_is)
      (case q14 => k_is)
      (case q15 => k_is)
      (case q16 => k_is)
    case f__law_draw =>
      refine' WS.df_mk KX G ?q17 ?q18 ?q19 ?q20
      (case q17 => k_is)
      (case q18 => k_is)
      (case q19 => k_is)
      (case q20 => k_is)
    case f__law_pick =>
      refine' WS.df_mk KX G ?q21 ?q22 ?q23 ?q24
      (case q21 => k_is)
      (case q22 => k_is)
      (case q23 => k_is)
      (case q24 => k_is)
    case f__law_specs =>
      refine' WS.df_mk KX G ?q25 ?q26 ?q27 ?q28
      (case q25 => k_is)
      (case q26 => k_is)
      (case q27 => k_is)
      (case q28 => k_is)
    case f__law_first =>
      refine' WS.df_mk KX G ?q29 ?q30 ?q31 ?q32
      (case q29 => k_is)
      (case q30 => k_is)
      (case q31 => k_is)
      (case q32 => k_is)
    case f__law_deed =>
      refine' WS.df_mk KX G ?q33 ?q34 ?q35 ?q36
      (case q33 => k_is)
      (case q34 => k_is)
      (case q35 => k_is)
      (case q36 => k_is)
    case f__law_ways =>
      refine' WS.df_mk KX G ?q37 ?q38 ?q39 ?q40
      (case q37 => k_is)
      (case q38 => k_is)
      (case q39 => k_is)
      (case q40 => k_is)
    case f__law_history =>
      refine' WS.df_mk KX G ?q41 ?q42 ?q43 ?q44
      (case q41 => k_is)
      (case q42 => k_is)
      (case q43 => k_is)
      (case q44 => k_is)
    case f__law_whole =>
      refine' WS.df_mk KX G ?q45 ?q46 ?q47 ?q48
      (case q45 => k_is)
      (case q46 => k_is)
      (case q47 => k_is)
      (case q48 => k_is)
    case f__law_odd =>
      refine' WS.df_mk KX G ?q49 ?q50 ?q51 ?q52
      (case q49 => k_is)
      (case q50 => k_is)
      (case q51 => k_is)
      (case q52 => k_is)
    case f__law_turned =>
      refine' WS.df_mk KX G ?q53 ?q54 ?q55 ?q56
      (case q53 => k_is)
      (case q54 => k_is)
      (case q55 => k_is)
      (case q56 => k_is)
    case f__law_due =>
      refine' WS.df_mk KX G ?q57 ?q58 ?q59 ?q60
      (case q57 => k_is)
      (case q58 => k_is)
      (case q59 => k_is)
      (case q60 => k_is)
    case f__law_latest =>
      refine' WS.df_mk KX G ?q61 ?q62 ?q63 ?q64
      (case q61 => k_is)
      (case q62 => k_is)
      (case q63 => k_is)
      (case q64 => k_is)
    case f__law_steps =>
      refine' WS.df_mk KX G ?q65 ?q66 ?q67 ?q68
      (case q65 => k_is)
      (case q66 => k_is)
      (case q67 => k_is)
      (case q68 => k_is)
    case f__law_spoilt =>
      refine' WS.df_mk KX G ?q69 ?q70 ?q71 ?q72
      (case q69 => k_is)
      (case q70 => k_is)
      (case q71 => k_is)
      (case q72 => k_is)
    case f_law =>
      refine' WS.df_mk KX G ?q73 ?q74 ?q75 ?q76
      (case q73 => k_is)
      (case q74 => k_is)
      (case q75 => k_is)
      (case q76 => k_is)
    case b_all =>
      refine' WS.nb_mk KX G ?q77
      (case q77 => k_is)
    case b_bool =>
      refine' WS.nb_mk KX G ?q78
      (case q78 => k_is)
    case b_dict =>
      refine' WS.nb_mk KX G ?q79
      (case q79 => k_is)
    case b_int =>
      refine' WS.nb_mk KX G ?q80
      (case q80 => k_is)
    case b_isinstance =>
      refine' WS.nb_mk KX G ?q81
      (case q81 => k_is)
    case b_len =>
      refine' WS.nb_mk KX G ?q82
      (case q82 => k_is)
    case b_list =>
      refine' WS.nb_mk KX G ?q83
      (case q83 => k_is)
    case b_max =>
      refine' WS.nb_mk KX G ?q84
      (case q84 => k_is)
    case b_min =>
      refine' WS.nb_mk KX G ?q85
      (case q85 => k_is)
    case b_range =>
      refine' WS.nb_mk KX G ?q86
      (case q86 => k_is)
    case b_repr =>
      refine' WS.nb_mk KX G ?q87
      (case q87 => k_is)
    case b_sorted =>
      refine' WS.nb_mk KX G ?q88
      (case q88 => k_is)
    case b_sum =>
      refine' WS.nb_mk KX G ?q89
      (case q89 => k_is)
    case b_tuple =>
      refine' WS.nb_mk KX G ?q90
      (case q90 => k_is)
    case b_zip =>
      refine' WS.nb_mk KX G ?q91
      (case q91 => k_is)
