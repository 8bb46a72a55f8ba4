import PyProof.Rows.All
import Wide.All
import OpenK.AllK
import Wide.FinOn
import HandS.ForMost
import HandS.ExcValue
import HandS.Zip
import KE.KUnpackStar
import HandS.IsInst
import HandS.TupAny
import HandS.Style
import HandS.TupLe
import HandS.More
import HandS.Deep
import HandS.SortInts
import HandS.SortRule
import HandS.SetFor
import HandS.Strs
import HandS.Zip0
import KE.GoesMore
import KE.GoesEnum
import HandS.Defaults
import HandS.Text
import PyProof.ReprBulk
import HandS.ExcInit
import HandS.ExcIs
import HandS.ExcField
import HandS.ExcOwn
import KE.KExcIs
import HandS.HotCalls
import HandS.ExcBuiltin
import HandS.TupMul
import PySem.Challenge.RW_weavesafe_k03_rows_that_are_no_program
set_option Elab.async false
set_option linter.all false
set_option maxRecDepth 100000
set_option maxHeartbeats 4000000
set_option autoImplicit false
namespace WS
open PySem PySem.Spec PyProof.Rows L2

/-! ## data -/
inductive D where
  | non | bl (b : Bool) | int (i : Int) | str (x : Str)
  | tup (xs : List D) | lst (xs : List D) | rdl (xs : List D) | dct (ks : List Key) (vs : List D) | ins (C : Str) (ns : List Str) (vs : List D) | ty (n : String) | obj (a : Addr) | deck
  deriving Inhabited

/-- the persistent part: finished things; where the deck stands -/
structure Sx where
  hp : Hp
  da : Option Addr

def Sub (S H : Hp) : Prop := ∀ a o, S a = some o → H a = some o
theorem Sub.refl (S : Hp) : Sub S S := fun _ _ h => h
theorem Sub.trans {A B C : Hp} (h : Sub A B) (g : Sub B C) : Sub A C := fun a o e => g a o (h a o e)
theorem Sub.new {H : Hp} {p : Addr} {o : HO} (h : H p = none) : Sub H (upd H p o) := fun a u e => by
  rw [upd_ne (ne_of_none e h)]; exact e
theorem Sub.none {A B : Hp} (h : Sub A B) {a : Addr} (n : B a = none) : A a = none := by
  cases q : A a with
  | none => rfl
  | some o => rw [h a o q] at n; cases n
theorem Sub.rd {A B : Hp} (h : Sub A B) {a : Addr} {u : HO} (r : Rd A a u) : Rd B a u := by
  rcases r with r | ⟨o, r⟩
  · exact .inl (h _ _ r)
  · exact .inr ⟨o, h _ _ r⟩
theorem Sub.sqL {K : PySem.W.Frag} {A B : Hp} (h : Sub A B) {a : Addr} {xs : List V} (r : SqL K A a xs) : SqL K B a xs := r.imp h.rd id
theorem Sub.sqT {K : PySem.W.Frag} {A B : Hp} (h : Sub A B) {a : Addr} {xs : List V} (r : SqT K A a xs) : SqT K B a xs := r.imp h.rd id

/-- a dict with text keys that stands in the written part -/
def KDct (K : PySem.W.Frag) (a : Addr) (ks : List Key) (vs : List V) : Prop := ∀ z : Str, ∃ r : Option Value, PySem.W.nsIn K a z = some r ∧ RelO (((ks.zip vs).find? fun p => p.1 == Sum.inr z).map (·.2)) r

/-- a class by its name -/
def ClsN (K : PySem.W.Frag) (nm : Str) (C : Addr) : Prop := PySem.W.nsIn K mainGlobals nm = some (some (.ref C))
/-- an exception class -/
def excG (K : PySem.W.Frag) (C : Addr) : Bool := decide (PySem.W.findIn K (.ref C) "__getattribute__" = some (some (.builtin "BaseException.__getattribute__")))
/-- an exception that was caught: its class, its dict -/
def exH (a C : Addr) (d : Option Addr) : HO := .ext fun h => ∃ (o : Obj) (vs : Array Value), h.get? a = some o ∧ o.cls = .ref C ∧ o.dict = d ∧ o.data = .fields vs
mutual
inductive Rp (K : PySem.W.Frag) (S : Sx) : V → D → Prop
  | non : Rp K S .non .non
  | bl (b : Bool) : Rp K S (.bl b) (.bl b)
  | int (i : Int) : Rp K S (.int i) (.int i)
  | str (x : Str) : Rp K S (.str x) (.str x)
  | tup {a : Addr} {xs : List V} {ds : List D} : SqT K S.hp a xs → RpL K S xs ds → Rp K S (.ref a) (.tup ds)
  | lst {a : Addr} {xs : List V} {ds : List D} : S.hp a = some (.lst xs) → RpL K S xs ds → Rp K S (.ref a) (.lst ds)
  | rdl {a : Addr} {xs : List V} {ds : List D} : SqL K S.hp a xs → RpL K S xs ds → Rp K S (.ref a) (.rdl ds)
  | ins {a C dx : Addr} {nm : Str} {fs : List (Str × V)} {ns : List Str} {vs : List V} {ds : List D} : S.hp a = some (.ins C dx fs) → ClsN K nm C → excG K C = false → fs.map (·.1) = ns → fs.map (·.2) = vs → RpL K S vs ds → Rp K S (.ref a) (.ins nm ns ds)
  | exc {a C dd : Addr} {nm : Str} {fs : List (Str × V)} {ns : List Str} {vs : List V} {ds : List D} : S.hp a = some (exH a C (some dd)) → ClsN K nm C → excG K C = true → S.hp dd = some (.xd fs) → fs.map (·.1) = ns → fs.map (·.2) = vs → RpL K S vs ds → Rp K S (.ref a) (.ins nm ns ds)
  | exc0 {a C : Addr} {nm : Str} : S.hp a = some (exH a C none) → ClsN K nm C → excG K C = true → Rp K S (.ref a) (.ins nm [] [])
  | ty (n : String) : Rp K S (.ty n) (.ty n)
  | obj (a : Addr) : Rp K S (.ref a) (.obj a)
  | dct {a : Addr} {kvs : List (Key × V)} {ks : List Key} {vs : List V} {ds : List D} : Rd S.hp a (.dK kvs) → kvs.map (·.1) = ks → kvs.map (·.2) = vs → RpL K S vs ds → Rp K S (.ref a) (.dct ks ds)
  | deck {a : Addr} : S.da = some a → Rp K S (.ref a) .deck
inductive RpL (K : PySem.W.Frag) (S : Sx) : List V → List D → Prop
  | nil : RpL K S [] []
  | cons {v : V} {vs : List V} {d : D} {ds : List D} : Rp K S v d → RpL K S vs ds → RpL K S (v :: vs) (d :: ds)
end

/-- S' has what S has -/
structure Le (S S' : Sx) : Prop where
  s : Sub S.hp S'.hp
  d : ∀ a, S.da = some a → S'.da = some a
theorem Le.refl (S : Sx) : Le S S := ⟨Sub.refl _, fun _ h => h⟩
theorem Le.trans {A B C : Sx} (h : Le A B) (g : Le B C) : Le A C := ⟨h.s.trans g.s, fun a e => g.d a (h.d a e)⟩

mutual
theorem Rp.mono {K : PySem.W.Frag} {S S' : Sx} (l : Le S S') : ∀ {v : V} {d : D}, Rp K S v d → Rp K S' v d
  | _, _, .non => .non
  | _, _, .bl b => .bl b
  | _, _, .int i => .int i
  | _, _, .str x => .str x
  | _, _, .tup h r => .tup (l.s.sqT h) (r.mono l)
  | _, _, .lst h r => .lst (l.s _ _ h) (r.mono l)
  | _, _, .rdl h r => .rdl (l.s.sqL h) (r.mono l)
  | _, _, .ins h c x a b r => .ins (l.s _ _ h) c x a b (r.mono l)
  | _, _, .exc h c x g a b r => .exc (l.s _ _ h) c x (l.s _ _ g) a b (r.mono l)
  | _, _, .exc0 h c x => .exc0 (l.s _ _ h) c x
  | _, _, .ty n => .ty n
  | _, _, .obj a => .obj a
  | _, _, .dct h a b r => .dct (l.s.rd h) a b (r.mono l)
  | _, _, .deck h => .deck (l.d _ h)
theorem RpL.mono {K : PySem.W.Frag} {S S' : Sx} (l : Le S S') : ∀ {v : List V} {d : List D}, RpL K S v d → RpL K S' v d
  | _, _, .nil => .nil
  | _, _, .cons h r => .cons (h.mono l) (r.mono l)
end

/-- an exception in the air: its class, its fields -/
def ExRp (K : PySem.W.Frag) (S : Sx) (C : Str) (ns : List Str) (ds : List D) (cls : Value) (d : Option Addr) : Prop :=
  ∃ Ca : Addr, cls = .ref Ca ∧ ClsN K C Ca ∧ excG K Ca = true ∧ ((d = none ∧ ns = [] ∧ ds = []) ∨ ∃ (dd : Addr) (fs : List (Str × V)), d = some dd ∧ S.hp dd = some (.xd fs) ∧ fs.map (·.1) = ns ∧ RpL K S (fs.map (·.2)) ds)
theorem ExRp.mono {K : PySem.W.Frag} {S S' : Sx} (l : Le S S') {C : Str} {ns : List Str} {ds : List D} {cls : Value} {d : Option Addr} (h : ExRp K S C ns ds cls d) : ExRp K S' C ns ds cls d := by
  obtain ⟨Ca, h1, h2, h0, h3⟩ := h
  refine ⟨Ca, h1, h2, h0, ?_⟩
  rcases h3 with h3 | ⟨dd, fs, e1, e2, e3, e4⟩
  · exact .inl h3
  · exact .inr ⟨dd, fs, e1, l.s _ _ e2, e3, e4.mono l⟩

section
variable {K : PySem.W.Frag} {S S' : Sx}
theorem RpL.length : ∀ {vs : List V} {ds : List D}, RpL K S vs ds → vs.length = ds.length
  | _, _, .nil => rfl
  | _, _, .cons _ t => by simp [RpL.length t]
theorem RpL.get : ∀ {vs : List V} {ds : List D}, RpL K S vs ds → ∀ {i : Nat} {d : D}, ds[i]? = some d → ∃ v, vs[i]? = some v ∧ Rp K S v d
  | _, _, .nil, i, d, e => by simp at e
  | _, _, .cons (v := v) h t, 0, d, e => by
    simp only [List.getElem?_cons_zero, Option.some.injEq] at e
    subst e
    exact ⟨v, rfl, h⟩
  | _, _, .cons h t, i + 1, d, e => by
    simp only [List.getElem?_cons_succ] at e ⊢
    exact RpL.get t e
theorem RpL.getV : ∀ {vs : List V} {ds : List D}, RpL K S vs ds → ∀ {i : Nat} {v : V}, vs[i]? = some v → ∃ d, ds[i]? = some d ∧ Rp K S v d
  | _, _, .nil, i, d, e => by simp at e
  | _, _, .cons (d := d) h t, 0, v, e => by
    simp only [List.getElem?_cons_zero, Option.some.injEq] at e
    subst e
    exact ⟨d, rfl, h⟩
  | _, _, .cons h t, i + 1, d, e => by
    simp only [List.getElem?_cons_succ] at e ⊢
    exact RpL.getV t e
theorem RpL.app : ∀ {vs ws : List V} {ds es : List D}, RpL K S vs ds → RpL K S ws es → RpL K S (vs ++ ws) (ds ++ es)
  | _, _, _, _, .nil, h => h
  | _, _, _, _, .cons h t, g => .cons h (RpL.app t g)
theorem RpL.take : ∀ {vs : List V} {ds : List D} (n : Nat), RpL K S vs ds → RpL K S (vs.take n) (ds.take n)
  | _, _, 0, _ => by simp; exact .nil
  | _, _, n + 1, .nil => by simp; exact .nil
  | _, _, n + 1, .cons h t => by simp only [List.take_succ_cons]; exact .cons h (RpL.take n t)
theorem RpL.drop : ∀ {vs : List V} {ds : List D} (n : Nat), RpL K S vs ds → RpL K S (vs.drop n) (ds.drop n)
  | _, _, 0, h => h
  | _, _, n + 1, .nil => by simp; exact .nil
  | _, _, n + 1, .cons h t => by simp only [List.drop_succ_cons]; exact RpL.drop n t
theorem RpL.rev {vs : List V} {ds : List D} (h : RpL K S vs ds) : RpL K S vs.reverse ds.reverse := by
  induction ds generalizing vs with
  | nil => cases h; exact .nil
  | cons d ds ih =>
    cases h with
    | cons h t =>
      simp only [List.reverse_cons]
      exact (ih t).app (.cons h .nil)
theorem RpL.ints : ∀ (is : List Int), RpL K S (is.map V.int) (is.map D.int)
  | [] => .nil
  | i :: r => .cons (.int i) (RpL.ints r)
theorem RpL.set : ∀ {vs : List V} {ds : List D} {v : V} {d : D} (i : Nat), RpL K S vs ds → Rp K S v d → RpL K S (vs.set i v) (ds.set i d)
  | _, _, _, _, _, .nil, _ => .nil
  | _, _, _, _, 0, .cons h t, g => .cons g t
  | _, _, _, _, i + 1, .cons h t, g => .cons h (RpL.set i t g)
end

/-- the heap has grown; nothing that stood changed, what was no finished thing is none -/
structure Grow (S : Sx) (H : Hp) (S' : Sx) (H' : Hp) : Prop where
  s : Sub S.hp S'.hp
  d : S'.da = S.da
  sh : Sub S'.hp H'
  h : Sub H H'
  n : ∀ a o, H a = some o → S.hp a = none → S'.hp a = none
theorem Grow.le {S S' : Sx} {H H' : Hp} (g : Grow S H S' H') : Le S S' := ⟨g.s, fun a e => by rw [g.d]; exact e⟩
theorem Grow.refl {S : Sx} {H : Hp} (h : Sub S.hp H) : Grow S H S H := ⟨Sub.refl _, rfl, h, Sub.refl _, fun _ _ _ e => e⟩
theorem Grow.trans {S S1 S2 : Sx} {H H1 H2 : Hp} (a : Grow S H S1 H1) (b : Grow S1 H1 S2 H2) : Grow S H S2 H2 :=
  ⟨a.s.trans b.s, b.d.trans a.d, b.sh, a.h.trans b.h, fun x o e n => b.n x o (a.h x o e) (a.n x o e n)⟩
/-- a new finished thing -/
def Sx.add (S : Sx) (p : Addr) (o : HO) : Sx := ⟨upd S.hp p o, S.da⟩
theorem Grow.add {S : Sx} {H : Hp} (h : Sub S.hp H) {p : Addr} {o : HO} (n : H p = none) : Grow S H (S.add p o) (upd H p o) where
  s := Sub.new (h.none n)
  d := rfl
  sh := fun a u e => by
    by_cases q : a = p
    · subst q
      rw [show (S.add a o).hp a = some o from upd_same] at e
      rw [upd_same]; exact e
    · rw [show (S.add p o).hp a = S.hp a from upd_ne q] at e
      rw [upd_ne q]; exact h _ _ e
  h := Sub.new n
  n := fun a u e hs => by
    rw [show (S.add p o).hp a = S.hp a from upd_ne (ne_of_none e n)]; exact hs
theorem Sx.add_at {S : Sx} {p : Addr} {o : HO} : (S.add p o).hp p = some o := upd_same

/-! ## what a def's slots hold -/
inductive Sl where
  | no | val (d : D) | own (d : D)
/-- an own list or dict, its content -/
def OwnAt (K : PySem.W.Frag) (S : Sx) (H : Hp) (p : Addr) : D → Prop
  | .lst ds => ∃ xs, H p = some (.lst xs) ∧ RpL K S xs ds
  | .dct ks ds => ∃ kvs, H p = some (.dK kvs) ∧ kvs.map (·.1) = ks ∧ RpL K S (kvs.map (·.2)) ds
  | .ins nm ns ds => ∃ (C dx : Addr) (fs : List (Str × V)), H p = some (.ins C dx fs) ∧ ClsN K nm C ∧ excG K C = false ∧ fs.map (·.1) = ns ∧ RpL K S (fs.map (·.2)) ds
  | _ => False
/-- the deck: its cells, at, sum -/
abbrev Dk := Option (List Int × Int × Int)
def kCells : Key := .inr "cells"
def kAt : Key := .inr "at"
def kSum : Key := .inr "sum"
def DkAt (S : Sx) (H : Hp) (F : Hp) (dk : Dk) (no : Addr → Prop) : Prop :=
  match dk with
  | none => S.da = none
  | some (cells, at_, sum) => ∃ a c, S.da = some a ∧ H a = some (.dK [(kCells, .ref c), (kAt, .int at_), (kSum, .int sum)]) ∧ H c = some (.lst (cells.map V.int)) ∧ S.hp a = none ∧ S.hp c = none ∧ F a = none ∧ F c = none ∧ ¬ no a ∧ ¬ no c

def SlOk (K : PySem.W.Frag) (σ : L2.St) (H : Hp) (S : Sx) (F : Hp) (i : Nat) : Sl → Prop
  | .no => True
  | .val d => ∃ v, σ[i]? = some (some v) ∧ Rp K S v d
  | .own d => ∃ p, σ[i]? = some (some (V.ref p)) ∧ OwnAt K S H p d ∧ S.hp p = none ∧ F p = none
/-- the addresses of own things -/
def Owns (σ : L2.St) (ρ : List Sl) (p : Addr) : Prop := ∃ (i : Nat) (d : D), ρ[i]? = some (Sl.own d) ∧ σ[i]? = some (some (V.ref p))

structure Rep (K : PySem.W.Frag) (σ : L2.St) (H : Hp) (S : Sx) (F : Hp) (ρ : List Sl) (dk : Dk) : Prop where
  sh : Sub S.hp H
  fh : Sub F H
  fs : ∀ a o, F a = some o → S.hp a = none
  len : σ.length = ρ.length
  env : ∀ (i : Nat) (s : Sl), ρ[i]? = some s → SlOk K σ H S F i s
  dist : ∀ (i j : Nat) (d e : D) (p : Addr), ρ[i]? = some (Sl.own d) → ρ[j]? = some (Sl.own e) → σ[i]? = some (some (V.ref p)) → σ[j]? = some (some (V.ref p)) → i = j
  dka : DkAt S H F dk (Owns σ ρ)

section
variable {K : PySem.W.Frag} {σ : L2.St} {H H' : Hp} {S S' : Sx} {F : Hp} {ρ : List Sl} {dk : Dk}
theorem OwnAt.grow {p : Addr} {d : D} (h : OwnAt K S H p d) (l : Le S S') (hh : Sub H H') : OwnAt K S' H' p d := by
  cases d with
  | lst ds => obtain ⟨xs, e, r⟩ := h; exact ⟨xs, hh _ _ e, r.mono l⟩
  | dct ks ds => obtain ⟨kvs, e, k, r⟩ := h; exact ⟨kvs, hh _ _ e, k, r.mono l⟩
  | ins nm ns ds => obtain ⟨C, dx, fs, e, c, x, k, r⟩ := h; exact ⟨C, dx, fs, hh _ _ e, c, x, k, r.mono l⟩
  | _ => exact h.elim
theorem OwnAt.at {p : Addr} {d : D} (h : OwnAt K S H p d) : ∃ o, H p = some o := by
  cases d with
  | lst ds => obtain ⟨xs, e, r⟩ := h; exact ⟨_, e⟩
  | dct ks ds => obtain ⟨kvs, e, k, r⟩ := h; exact ⟨_, e⟩
  | ins nm ns ds => obtain ⟨C, dx, fs, e, _⟩ := h; exact ⟨_, e⟩
  | _ => exact h.elim
theorem Rep.grow (r : Rep K σ H S F ρ dk) (g : Grow S H S' H') : Rep K σ H' S' F ρ dk where
  sh := g.sh
  fh := r.fh.trans g.h
  fs := fun a o e => g.n a o (r.fh a o e) (r.fs a o e)
  len := r.len
  env := fun i s e => by
    have h := r.env i s e
    cases s with
    | no => trivial
    | val d => obtain ⟨v, h1, h2⟩ := h; exact ⟨v, h1, h2.mono g.le⟩
    | own d =>
      obtain ⟨p, h1, h2, h3, h4⟩ := h
      obtain ⟨o, ho⟩ := h2.at
      exact ⟨p, h1, h2.grow g.le g.h, g.n p o ho h3, h4⟩
  dist := r.dist
  dka := by
    have h := r.dka
    cases dk with
    | none => exact g.d.trans h
    | some x =>
      obtain ⟨cells, at_, sum⟩ := x
      obtain ⟨a, c, h1, h2, h3, h4, h5, h6⟩ := h
      exact ⟨a, c, g.d.trans h1, g.h _ _ h2, g.h _ _ h3, g.n _ _ h2 h4, g.n _ _ h3 h5, h6⟩
end

/-! ## readings -/
abbrev E := List Sl → Dk → Option (D × List Sl × Dk)
abbrev EL := List Sl → Dk → Option (List D × List Sl × Dk)
def TEv (K : PySem.W.Frag) (f : E) : TE := fun σ H Q => ∃ S F ρ dk d ρ' dk', Rep K σ H S F ρ dk ∧ f ρ dk = some (d, ρ', dk') ∧
  ∀ v H' S', Le S S' → Rep K σ H' S' F ρ' dk' → Rp K S' v d → Q v H'
def TAv (K : PySem.W.Frag) (f : EL) : TA := fun σ H Q => ∃ S F ρ dk d ρ' dk', Rep K σ H S F ρ dk ∧ f ρ dk = some (d, ρ', dk') ∧
  ∀ v H' S', Le S S' → Rep K σ H' S' F ρ' dk' → RpL K S' v d → Q v H'
def TTv (K : PySem.W.Frag) (f : E) : TT := fun σ H Q => ∃ S F ρ dk b ρ' dk', Rep K σ H S F ρ dk ∧ f ρ dk = some (.bl b, ρ', dk') ∧
  ∀ H' S', Le S S' → Rep K σ H' S' F ρ' dk' → Q b H'

/-- a weaker reading -/
theorem _root_.L2.PE.imp {X : Cx} {e : Expr} {t t' : TE} (h : PE X e t) (i : ∀ σ H Q, t' σ H Q → t σ H Q) : PE X e t' := ⟨fun pins s σ H Q I q => h.run pins s σ H Q I (i _ _ _ q)⟩
theorem _root_.L2.PT.imp {X : Cx} {e : Expr} {t t' : TT} (h : PT X e t) (i : ∀ σ H Q, t' σ H Q → t σ H Q) : PT X e t' := ⟨fun pins s σ H Q I q => h.run pins s σ H Q I (i _ _ _ q)⟩
theorem _root_.L2.PA.imp {X : Cx} {e : List Expr} {t t' : TA} (h : PA X e t) (i : ∀ σ H Q, t' σ H Q → t σ H Q) : PA X e t' := ⟨fun pos pins s σ H Q I q => h.run pos pins s σ H Q I (i _ _ _ q)⟩
theorem _root_.L2.PS.imp {X : Cx} {e : Stmt} {t t' : TS} (h : PS X e t) (i : ∀ D σ H, t' D σ H → t D σ H) : PS X e t' := ⟨fun pins s σ H D I q => h.run pins s σ H D I (i _ _ _ q)⟩
theorem _root_.L2.PSs.imp {X : Cx} {e : List Stmt} {t t' : TS} (h : PSs X e t) (i : ∀ D σ H, t' D σ H → t D σ H) : PSs X e t' := ⟨fun pins s σ H D I q => h.run pins s σ H D I (i _ _ _ q)⟩

/-! ## expressions -/
def eC (d : D) : E := fun ρ k => some (d, ρ, k)
def eVar (i : Nat) : E := fun ρ k => match ρ[i]? with
  | some (.val d) => some (d, ρ, k)
  | some (.own d) => some (d, ρ.set i (.val d), k)
  | _ => none
def eOp (g : D → D → Option D) (a b : E) : E := fun ρ k => (a ρ k).bind fun x => (b x.2.1 x.2.2).bind fun y => (g x.1 y.1).map fun z => (z, y.2.1, y.2.2)
def eUn (g : D → Option D) (a : E) : E := fun ρ k => (a ρ k).bind fun x => (g x.1).map fun z => (z, x.2.1, x.2.2)
def aNil : EL := fun ρ k => some ([], ρ, k)
def aCons (a : E) (b : EL) : EL := fun ρ k => (a ρ k).bind fun x => (b x.2.1 x.2.2).map fun y => (x.1 :: y.1, y.2.1, y.2.2)
def eApp (g : List D → Option D) (a : EL) : E := fun ρ k => (a ρ k).bind fun x => (g x.1).map fun z => (z, x.2.1, x.2.2)
def eAnd (a b : E) : E := fun ρ k => (a ρ k).bind fun x => match x.1 with
  | .bl true => b x.2.1 x.2.2
  | .bl false => some (.bl false, x.2.1, x.2.2)
  | _ => none
def eOr (a b : E) : E := fun ρ k => (a ρ k).bind fun x => match x.1 with
  | .bl false => b x.2.1 x.2.2
  | .bl true => some (.bl true, x.2.1, x.2.2)
  | _ => none
def gNot : D → Option D
  | .bl b => some (.bl (!b))
  | _ => none
abbrev eNot (a : E) : E := eUn gNot a
def eIf (c a b : E) : E := fun ρ k => (c ρ k).bind fun x => match x.1 with
  | .bl true => a x.2.1 x.2.2
  | .bl false => b x.2.1 x.2.2
  | _ => none
end WS
namespace WS
open PySem PySem.Spec PyProof.Rows L2

section
variable {K : PySem.W.Frag} {σ : L2.St} {H H' : Hp} {S S' : Sx} {F : Hp} {ρ : List Sl} {dk : Dk}

theorem Owns.set_val {i : Nat} {d : D} {p : Addr} (h : Owns σ (ρ.set i (.val d)) p) : Owns σ ρ p := by
  obtain ⟨j, e, h1, h2⟩ := h
  by_cases hj : i = j
  · subst hj
    rw [List.getElem?_set] at h1
    by_cases hl : i < ρ.length
    · rw [if_pos rfl, if_pos hl] at h1; cases h1
    · rw [if_pos rfl, if_neg hl] at h1; cases h1
  · rw [List.getElem?_set_ne hj] at h1
    exact ⟨j, e, h1, h2⟩

theorem Rep.freeze {i : Nat} {d : D} (r : Rep K σ H S F ρ dk) (h : ρ[i]? = some (Sl.own d)) :
    ∃ p o, σ[i]? = some (some (V.ref p)) ∧ H p = some o ∧ Rep K σ H (S.add p o) F (ρ.set i (.val d)) dk ∧ Le S (S.add p o) ∧ Rp K (S.add p o) (.ref p) d := by
  obtain ⟨p, h1, h2, h3, h4⟩ := r.env i _ h
  have hl : i < ρ.length := by
    by_cases hl : i < ρ.length
    · exact hl
    · rw [List.getElem?_eq_none (Nat.le_of_not_lt hl)] at h; cases h
  obtain ⟨o, ho, hr⟩ : ∃ o, H p = some o ∧ (∀ S', Le S S' → S'.hp p = some o → Rp K S' (.ref p) d) := by
    cases d with
    | lst ds =>
      obtain ⟨xs, e, q⟩ := h2
      exact ⟨_, e, fun S' l e' => .lst e' (q.mono l)⟩
    | dct ks ds =>
      obtain ⟨kvs, e, k, q⟩ := h2
      exact ⟨_, e, fun S' l e' => .dct (.inl e') k rfl (q.mono l)⟩
    | ins nm ns ds =>
      obtain ⟨C, dx, fs, e, c, x, k, q⟩ := h2
      exact ⟨_, e, fun S' l e' => .ins e' c x k rfl (q.mono l)⟩
    | _ => exact h2.elim
  have le : Le S (S.add p o) := ⟨Sub.new h3, fun a e => e⟩
  have hrp : Rp K (S.add p o) (.ref p) d := hr _ le Sx.add_at
  have hp : ∀ a, a ≠ p → (S.add p o).hp a = S.hp a := fun a q => upd_ne q
  refine ⟨p, o, h1, ho, ⟨?_, r.fh, ?_, by rw [r.len, List.length_set], ?_, ?_, ?_⟩, le, hrp⟩
  · intro a u e
    by_cases q : a = p
    · subst q; rw [Sx.add_at] at e; rw [ho]; exact e
    · rw [hp a q] at e; exact r.sh a u e
  · intro a u e
    rw [hp a (fun q => by subst q; rw [h4] at e; cases e)]
    exact r.fs a u e
  · intro j s e
    by_cases hj : i = j
    · subst hj
      rw [List.getElem?_set_self hl] at e
      cases e
      exact ⟨_, h1, hrp⟩
    · rw [List.getElem?_set_ne hj] at e
      have q := r.env j s e
      cases s with
      | no => trivial
      | val c => obtain ⟨v, q1, q2⟩ := q; exact ⟨v, q1, q2.mono le⟩
      | own c =>
        obtain ⟨p', q1, q2, q3, q4⟩ := q
        have ne : p' ≠ p := fun z => by
          subst z
          exact hj (r.dist i j d c p' h e h1 q1)
        exact ⟨p', q1, q2.grow le (Sub.refl _), by rw [hp p' ne]; exact q3, q4⟩
  · intro j k c e p' ej ek sj sk
    have nj : i ≠ j := fun z => by subst z; rw [List.getElem?_set_self hl] at ej; cases ej
    have nk : i ≠ k := fun z => by subst z; rw [List.getElem?_set_self hl] at ek; cases ek
    rw [List.getElem?_set_ne nj] at ej
    rw [List.getElem?_set_ne nk] at ek
    exact r.dist j k c e p' ej ek sj sk
  · have q := r.dka
    cases dk with
    | none => exact q
    | some x =>
      obtain ⟨cells, at_, sum⟩ := x
      obtain ⟨a, c, q1, q2, q3, q4, q5, q6, q7, q8, q9⟩ := q
      have ow : Owns σ ρ p := ⟨i, d, h, h1⟩
      exact ⟨a, c, q1, q2, q3, by rw [hp a (fun z => q8 (z ▸ ow))]; exact q4, by rw [hp c (fun z => q9 (z ▸ ow))]; exact q5, q6, q7, fun z => q8 z.set_val, fun z => q9 z.set_val⟩

theorem tev_var {i : Nat} {Q : VK} (h : TEv K (eVar i) σ H Q) : tVar i σ H Q := by
  obtain ⟨S, F, ρ, dk, d, ρ', dk', r, e, q⟩ := h
  unfold eVar at e
  split at e
  · rename_i c hc
    cases e
    obtain ⟨v, h1, h2⟩ := r.env i _ hc
    exact ⟨v, h1, q v H S (Le.refl S) r h2⟩
  · rename_i c hc
    cases e
    obtain ⟨p, o, h1, ho, r', le, hr⟩ := r.freeze hc
    exact ⟨.ref p, h1, q _ H _ le r' hr⟩
  · cases e
theorem tev_c {v : V} {d : D} {Q : VK} (hv : ∀ S, Rp K S v d) (h : TEv K (eC d) σ H Q) : tC v σ H Q := by
  obtain ⟨S, F, ρ, dk, d, ρ', dk', r, e, q⟩ := h
  cases e
  exact q v H S (Le.refl S) r (hv S)
end

/-! ### by values -/
def OpD (K : PySem.W.Frag) (r : R2) (g : D → D → Option D) : Prop := ∀ (S : Sx) (H : Hp) (x y : V) (d e z : D) (Q : VK), Sub S.hp H → Rp K S x d → Rp K S y e → g d e = some z →
  (∀ w S' H', Grow S H S' H' → Rp K S' w z → Q w H') → r x y H Q
def UnD (K : PySem.W.Frag) (r : V → Hp → VK → Prop) (g : D → Option D) : Prop := ∀ (S : Sx) (H : Hp) (x : V) (d z : D) (Q : VK), Sub S.hp H → Rp K S x d → g d = some z →
  (∀ w S' H', Grow S H S' H' → Rp K S' w z → Q w H') → r x H Q
def CallD (K : PySem.W.Frag) (r : List V → Hp → VK → Prop) (g : List D → Option D) : Prop := ∀ (S : Sx) (H : Hp) (xs : List V) (ds : List D) (z : D) (Q : VK), Sub S.hp H → RpL K S xs ds → g ds = some z →
  (∀ w S' H', Grow S H S' H' → Rp K S' w z → Q w H') → r xs H Q
def MtD (K : PySem.W.Frag) (r : V → List V → Hp → VK → Prop) (g : D → List D → Option D) : Prop := ∀ (S : Sx) (H : Hp) (x : V) (xs : List V) (d : D) (ds : List D) (z : D) (Q : VK), Sub S.hp H → Rp K S x d → RpL K S xs ds → g d ds = some z →
  (∀ w S' H', Grow S H S' H' → Rp K S' w z → Q w H') → r x xs H Q

/-- a two-place operation -/
def OpX (X : Cx) (f : Value → Value → Sem Value) (g : D → D → Option D) : Prop := ∃ r, OpR X f r ∧ OpD X.K r g
def UnX (X : Cx) (f : Value → Sem Value) (g : D → Option D) : Prop := ∃ r, UnR X f r ∧ UnD X.K r g
def CallX (X : Cx) (f : Value) (g : List D → Option D) : Prop := ∃ r, CallR X f r ∧ CallD X.K r g
def IxX (X : Cx) (g : D → D → Option D) : Prop := ∃ r, IxR X r ∧ OpD X.K r g
def MtX (X : Cx) (id : String) (g : D → List D → Option D) : Prop := ∃ r, MtR X id r ∧ MtD X.K r g

section
variable {K : PySem.W.Frag} {σ : L2.St} {H : Hp} {Q : VK}
theorem tev_op {r : R2} {g : D → D → Option D} {fa fb : E} (hr : OpD K r g) (h : TEv K (eOp g fa fb) σ H Q) : tOp r (TEv K fa) (TEv K fb) σ H Q := by
  obtain ⟨S, F, ρ, dk, d, ρ', dk', R, e, q⟩ := h
  unfold eOp at e
  cases ea : fa ρ dk with
  | none => rw [ea] at e; cases e
  | some xa =>
    obtain ⟨da, ρ1, k1⟩ := xa
    rw [ea] at e
    simp only [Option.bind_some] at e
    cases eb : fb ρ1 k1 with
    | none => rw [eb] at e; cases e
    | some xb =>
      obtain ⟨db, ρ2, k2⟩ := xb
      rw [eb] at e
      simp only [Option.bind_some] at e
      cases eg : g da db with
      | none => rw [eg] at e; cases e
      | some z =>
        rw [eg] at e
        simp only [Option.map_some] at e
        cases e
        refine ⟨S, F, ρ, dk, da, ρ1, k1, R, ea, fun v H1 S1 l1 R1 rv => ⟨S1, F, ρ1, k1, db, _, _, R1, eb, fun u H2 S2 l2 R2 ru => ?_⟩⟩
        exact hr S2 H2 v u da db _ Q R2.sh (rv.mono l2) ru eg fun w S' H' gr rw' => q w H' S' ((l1.trans l2).trans gr.le) (R2.grow gr) rw'
theorem tev_un {r : V → Hp → VK → Prop} {g : D → Option D} {fa : E} (hr : UnD K r g) (h : TEv K (eUn g fa) σ H Q) : tUn r (TEv K fa) σ H Q := by
  obtain ⟨S, F, ρ, dk, d, ρ', dk', R, e, q⟩ := h
  unfold eUn at e
  cases ea : fa ρ dk with
  | none => rw [ea] at e; cases e
  | some xa =>
    obtain ⟨da, ρ1, k1⟩ := xa
    rw [ea] at e
    simp only [Option.bind_some] at e
    cases eg : g da with
    | none => rw [eg] at e; cases e
    | some z =>
      rw [eg] at e
      simp only [Option.map_some] at e
      cases e
      refine ⟨S, F, ρ, dk, da, _, _, R, ea, fun v H1 S1 l1 R1 rv => ?_⟩
      exact hr S1 H1 v da _ Q R1.sh rv eg fun w S' H' gr rw' => q w H' S' (l1.trans gr.le) (R1.grow gr) rw'
theorem tav_nil {Q : List V → Hp → Prop} (h : TAv K aNil σ H Q) : tNil σ H Q := by
  obtain ⟨S, F, ρ, dk, d, ρ', dk', R, e, q⟩ := h
  cases e
  exact q _ H S (Le.refl S) R .nil
theorem tav_cons {fa : E} {fs : EL} {Q : List V → Hp → Prop} (h : TAv K (aCons fa fs) σ H Q) : tCons (TEv K fa) (TAv K fs) σ H Q := by
  obtain ⟨S, F, ρ, dk, d, ρ', dk', R, e, q⟩ := h
  unfold aCons at e
  cases ea : fa ρ dk with
  | none => rw [ea] at e; cases e
  | some xa =>
    obtain ⟨da, ρ1, k1⟩ := xa
    rw [ea] at e
    simp only [Option.bind_some] at e
    cases eb : fs ρ1 k1 with
    | none => rw [eb] at e; cases e
    | some xb =>
      obtain ⟨db, ρ2, k2⟩ := xb
      rw [eb] at e
      cases e
      refine ⟨S, F, ρ, dk, da, ρ1, k1, R, ea, fun v H1 S1 l1 R1 rv => ⟨S1, F, ρ1, k1, db, _, _, R1, eb, fun u H2 S2 l2 R2 ru => ?_⟩⟩
      exact q _ H2 S2 (l1.trans l2) R2 (.cons (rv.mono l2) ru)
/-- an argument list, then something by its values -/
theorem tev_app {t : TA → TE} {r : List V → Hp → VK → Prop} {g : List D → Option D} {fs : EL} (ht : ∀ t' σ H Q, t' σ H (fun xs H1 => r xs H1 Q) → t t' σ H Q) (hr : CallD K r g) (h : TEv K (eApp g fs) σ H Q) : t (TAv K fs) σ H Q := by
  obtain ⟨S, F, ρ, dk, d, ρ', dk', R, e, q⟩ := h
  unfold eApp at e
  cases ea : fs ρ dk with
  | none => rw [ea] at e; cases e
  | some xa =>
    obtain ⟨da, ρ1, k1⟩ := xa
    rw [ea] at e
    simp only [Option.bind_some] at e
    cases eg : g da with
    | none => rw [eg] at e; cases e
    | some z =>
      rw [eg] at e
      simp only [Option.map_some] at e
      cases e
      refine ht _ σ H Q ⟨S, F, ρ, dk, da, _, _, R, ea, fun v H1 S1 l1 R1 rv => ?_⟩
      exact hr S1 H1 v da _ Q R1.sh rv eg fun w S' H' gr rw' => q w H' S' (l1.trans gr.le) (R1.grow gr) rw'
theorem tev_tup {fs : EL} (h : TEv K (eApp (fun ds => if ds.length ≤ sizeLine then some (.tup ds) else none) fs) σ H Q) : tTup (TAv K fs) σ H Q := by
  refine tev_app (t := tTup) (r := fun xs H1 Q => xs.length ≤ sizeLine ∧ ∀ p, H1 p = none → Q (.ref p) (upd H1 p (.tup xs))) (fun _ _ _ _ h => h) (fun S H xs ds z Q sh r e q => ?_) h
  split at e
  · rename_i hl
    cases e
    exact ⟨by rw [r.length]; exact hl, fun p hp => q _ _ _ (Grow.add sh hp) (.tup (.inl (.inl Sx.add_at)) (r.mono (Grow.add sh hp).le))⟩
  · cases e
theorem tev_lst {fs : EL} (h : TEv K (eApp (fun ds => if ds.length ≤ sizeLine then some (.lst ds) else none) fs) σ H Q) : tLst (TAv K fs) σ H Q := by
  refine tev_app (t := tLst) (r := fun xs H1 Q => xs.length ≤ sizeLine ∧ ∀ p, H1 p = none → Q (.ref p) (upd H1 p (.lst xs))) (fun _ _ _ _ h => h) (fun S H xs ds z Q sh r e q => ?_) h
  split at e
  · rename_i hl
    cases e
    exact ⟨by rw [r.length]; exact hl, fun p hp => q _ _ _ (Grow.add sh hp) (.lst Sx.add_at (r.mono (Grow.add sh hp).le))⟩
  · cases e
theorem tev_and {fa fb : E} (h : TEv K (eAnd fa fb) σ H Q) : tAndV (TEv K fa) (TEv K fb) σ H Q := by
  obtain ⟨S, F, ρ, dk, d, ρ', dk', R, e, q⟩ := h
  unfold eAnd at e
  cases ea : fa ρ dk with
  | none => rw [ea] at e; cases e
  | some xa =>
    obtain ⟨da, ρ1, k1⟩ := xa
    rw [ea] at e
    simp only [Option.bind_some] at e
    refine ⟨S, F, ρ, dk, da, ρ1, k1, R, ea, fun v H1 S1 l1 R1 rv => ?_⟩
    split at e
    · cases rv
      exact ⟨true, rfl, S1, F, ρ1, k1, _, _, _, R1, e, fun u H2 S2 l2 R2 ru => q u H2 S2 (l1.trans l2) R2 ru⟩
    · cases rv
      cases e
      exact ⟨false, rfl, q _ H1 S1 l1 R1 (.bl false)⟩
    · cases e
theorem tev_or {fa fb : E} (h : TEv K (eOr fa fb) σ H Q) : tOrV (TEv K fa) (TEv K fb) σ H Q := by
  obtain ⟨S, F, ρ, dk, d, ρ', dk', R, e, q⟩ := h
  unfold eOr at e
  cases ea : fa ρ dk with
  | none => rw [ea] at e; cases e
  | some xa =>
    obtain ⟨da, ρ1, k1⟩ := xa
    rw [ea] at e
    simp only [Option.bind_some] at e
    refine ⟨S, F, ρ, dk, da, ρ1, k1, R, ea, fun v H1 S1 l1 R1 rv => ?_⟩
    split at e
    · cases rv
      exact ⟨false, rfl, S1, F, ρ1, k1, _, _, _, R1, e, fun u H2 S2 l2 R2 ru => q u H2 S2 (l1.trans l2) R2 ru⟩
    · cases rv
      cases e
      exact ⟨true, rfl, q _ H1 S1 l1 R1 (.bl true)⟩
    · cases e
theorem tev_not {fa : E} (h : TEv K (eNot fa) σ H Q) : tNotV (TEv K fa) σ H Q := by
  obtain ⟨S, F, ρ, dk, d, ρ', dk', R, e, q⟩ := h
  unfold eNot eUn at e
  cases ea : fa ρ dk with
  | none => rw [ea] at e; cases e
  | some xa =>
    obtain ⟨da, ρ1, k1⟩ := xa
    rw [ea] at e
    simp only [Option.bind_some] at e
    refine ⟨S, F, ρ, dk, da, ρ1, k1, R, ea, fun v H1 S1 l1 R1 rv => ?_⟩
    cases da with
    | bl b =>
      cases rv
      cases e
      exact ⟨b, rfl, q _ H1 S1 l1 R1 (.bl _)⟩
    | _ => cases e
/-- a test's reading from a value's -/
theorem ttv_val {f : E} {Q : Bool → Hp → Prop} (h : TTv K f σ H Q) : TEv K f σ H fun x H1 => ∃ c, x = .bl c ∧ Q c H1 := by
  obtain ⟨S, F, ρ, dk, b, ρ', dk', R, e, q⟩ := h
  refine ⟨S, F, ρ, dk, _, ρ', dk', R, e, fun v H' S' l R' rv => ?_⟩
  cases rv
  exact ⟨b, rfl, q H' S' l R'⟩
theorem ttv_not {f : E} {Q : Bool → Hp → Prop} (h : TTv K (eNot f) σ H Q) : tNot (TTv K f) σ H Q := by
  obtain ⟨S, F, ρ, dk, b, ρ', dk', R, e, q⟩ := h
  unfold eNot eUn at e
  cases ea : f ρ dk with
  | none => rw [ea] at e; cases e
  | some xa =>
    obtain ⟨da, ρ1, k1⟩ := xa
    rw [ea] at e
    simp only [Option.bind_some] at e
    cases da with
    | bl c =>
      cases e
      exact ⟨S, F, ρ, dk, c, _, _, R, ea, fun H1 S1 l1 R1 => q H1 S1 l1 R1⟩
    | _ => cases e
theorem ttv_and {fa fb : E} {Q : Bool → Hp → Prop} (h : TTv K (eAnd fa fb) σ H Q) : tAnd (TTv K fa) (TTv K fb) σ H Q := by
  obtain ⟨S, F, ρ, dk, b, ρ', dk', R, e, q⟩ := h
  unfold eAnd at e
  cases ea : fa ρ dk with
  | none => rw [ea] at e; cases e
  | some xa =>
    obtain ⟨da, ρ1, k1⟩ := xa
    rw [ea] at e
    simp only [Option.bind_some] at e
    split at e
    · refine ⟨S, F, ρ, dk, true, ρ1, k1, R, ea, fun H1 S1 l1 R1 => ?_⟩
      exact ⟨S1, F, ρ1, k1, _, _, _, R1, e, fun H2 S2 l2 R2 => q H2 S2 (l1.trans l2) R2⟩
    · cases e
      exact ⟨S, F, ρ, dk, false, _, _, R, ea, fun H1 S1 l1 R1 => q H1 S1 l1 R1⟩
    · cases e
theorem ttv_or {fa fb : E} {Q : Bool → Hp → Prop} (h : TTv K (eOr fa fb) σ H Q) : tOr (TTv K fa) (TTv K fb) σ H Q := by
  obtain ⟨S, F, ρ, dk, b, ρ', dk', R, e, q⟩ := h
  unfold eOr at e
  cases ea : fa ρ dk with
  | none => rw [ea] at e; cases e
  | some xa =>
    obtain ⟨da, ρ1, k1⟩ := xa
    rw [ea] at e
    simp only [Option.bind_some] at e
    split at e
    · refine ⟨S, F, ρ, dk, false, ρ1, k1, R, ea, fun H1 S1 l1 R1 => ?_⟩
      exact ⟨S1, F, ρ1, k1, _, _, _, R1, e, fun H2 S2 l2 R2 => q H2 S2 (l1.trans l2) R2⟩
    · cases e
      exact ⟨S, F, ρ, dk, true, _, _, R, ea, fun H1 S1 l1 R1 => q H1 S1 l1 R1⟩
    · cases e
theorem tev_if {fc fa fb : E} (h : TEv K (eIf fc fa fb) σ H Q) : tIf (TTv K fc) (TEv K fa) (TEv K fb) σ H Q := by
  obtain ⟨S, F, ρ, dk, d, ρ', dk', R, e, q⟩ := h
  unfold eIf at e
  cases ea : fc ρ dk with
  | none => rw [ea] at e; cases e
  | some xa =>
    obtain ⟨da, ρ1, k1⟩ := xa
    rw [ea] at e
    simp only [Option.bind_some] at e
    split at e
    · refine ⟨S, F, ρ, dk, true, ρ1, k1, R, ea, fun H1 S1 l1 R1 => ?_⟩
      exact ⟨S1, F, ρ1, k1, _, _, _, R1, e, fun v H2 S2 l2 R2 rv => q v H2 S2 (l1.trans l2) R2 rv⟩
    · refine ⟨S, F, ρ, dk, false, ρ1, k1, R, ea, fun H1 S1 l1 R1 => ?_⟩
      exact ⟨S1, F, ρ1, k1, _, _, _, R1, e, fun v H2 S2 l2 R2 rv => q v H2 S2 (l1.trans l2) R2 rv⟩
    · cases e
end

def gTupD (ds : List D) : Option D := if ds.length ≤ sizeLine then some (.tup ds) else none
def gLstD (ds : List D) : Option D := if ds.length ≤ sizeLine then some (.lst ds) else none

/-! ### the derivation's rules -/
section
variable {X : Cx} {a b c : Expr} {es rest : List Expr} {fa fb fc : E} {fs : EL} {pos : Pos}
theorem d_int {i j} : PE X (.Constant (.int i) j pos) (TEv X.K (eC (.int i))) := pe_int.imp fun _ _ _ h => tev_c (fun _ => .int i) h
theorem d_bl {i j} : PE X (.Constant (.bool i) j pos) (TEv X.K (eC (.bl i))) := pe_bl.imp fun _ _ _ h => tev_c (fun _ => .bl i) h
theorem d_non {j} : PE X (.Constant .none j pos) (TEv X.K (eC .non)) := pe_non.imp fun _ _ _ h => tev_c (fun _ => .non) h
theorem d_str {i j} : PE X (.Constant (.str i) j pos) (TEv X.K (eC (.str i))) := pe_str.imp fun _ _ _ h => tev_c (fun _ => .str i) h
theorem d_var {i : Nat} {x : Str} (hN : X.N[i]? = some x) (hv : Vis X.env.scope x) (hd : (x == ("__debug__" : Str)) = false := by decide) (hcd : (x == ("__classdict__" : Str)) = false := by decide) : PE X (.Name x pos) (TEv X.K (eVar i)) :=
  (pe_var hN hv hd hcd).imp fun _ _ _ h => tev_var h
/-- a module's constant -/
theorem d_glob {x : Str} {v : V} {u : Value} {d : D} (hg : Gl X x) (hm : X.mg x = some u) (r : RelV v u) (hr : ∀ S, Rp X.K S v d) (hd : (x == ("__debug__" : Str)) = false := by decide) : PE X (.Name x pos) (TEv X.K (eC d)) :=
  (pe_glob hg hm r hd).imp fun _ _ _ h => tev_c hr h
theorem d_op {op : Operator} {g : D → D → Option D} (ho : OpX X (binaryOp op) g) (ha : PE X a (TEv X.K fa)) (hb : PE X b (TEv X.K fb)) : PE X (.BinOp a op b pos) (TEv X.K (eOp g fa fb)) := by
  obtain ⟨r, h1, h2⟩ := ho
  exact (pe_op h1 ha hb).imp fun _ _ _ h => tev_op h2 h
theorem d_un {op : UnaryOp} {g : D → Option D} (ho : UnX X (unaryOp op) g) (ha : PE X a (TEv X.K fa)) : PE X (.UnaryOp op a pos) (TEv X.K (eUn g fa)) := by
  obtain ⟨r, h1, h2⟩ := ho
  exact (pe_un h1 ha).imp fun _ _ _ h => tev_un h2 h
theorem d_cmp {op : CmpOp} {g : D → D → Option D} (ho : OpX X (compareOp op) g) (ha : PE X a (TEv X.K fa)) (hb : PE X b (TEv X.K fb)) (hm : behindInMarks op b = false) : PE X (.Compare a [op] [b] pos) (TEv X.K (eOp g fa fb)) := by
  obtain ⟨r, h1, h2⟩ := ho
  exact (pe_cmpR h1 ha hb hm).imp fun _ _ _ h => tev_op h2 h
theorem d_ix {g : D → D → Option D} (ho : IxX X g) (ha : PE X a (TEv X.K fa)) (hb : PE X b (TEv X.K fb)) (hs : PlainIx b) : PE X (.Subscript a b pos) (TEv X.K (eOp g fa fb)) := by
  obtain ⟨r, h1, h2⟩ := ho
  exact (pe_ix h1 ha hb hs).imp fun _ _ _ h => tev_op h2 h
theorem d_not (ha : PE X a (TEv X.K fa)) : PE X (.UnaryOp .Not a pos) (TEv X.K (eNot fa)) := (pe_not ha).imp fun _ _ _ h => tev_not h
theorem d_one {op} (ha : PE X a (TEv X.K fa)) : PE X (.BoolOp op [a] pos) (TEv X.K fa) := pe_one ha
theorem d_and (ha : PE X a (TEv X.K fa)) (hb : PE X (.BoolOp .And (b :: rest) pos) (TEv X.K fb)) : PE X (.BoolOp .And (a :: b :: rest) pos) (TEv X.K (eAnd fa fb)) := (pe_and ha hb).imp fun _ _ _ h => tev_and h
theorem d_or (ha : PE X a (TEv X.K fa)) (hb : PE X (.BoolOp .Or (b :: rest) pos) (TEv X.K fb)) : PE X (.BoolOp .Or (a :: b :: rest) pos) (TEv X.K (eOr fa fb)) := (pe_or ha hb).imp fun _ _ _ h => tev_or h
theorem d_ifx (hc : PT X c (TTv X.K fc)) (ha : PE X a (TEv X.K fa)) (hb : PE X b (TEv X.K fb)) : PE X (.IfExp c a b pos) (TEv X.K (eIf fc fa fb)) := (pe_ifExp hc ha hb).imp fun _ _ _ h => tev_if h
theorem a_nil : PA X [] (TAv X.K aNil) := pa_nil.imp fun _ _ _ h => tav_nil h
theorem a_cons (ha : PE X a (TEv X.K fa)) (hr : PA X es (TAv X.K fs)) (hs : starEach (a :: es) X.env = (false, eval a X.env) :: starEach es X.env := by kernel_rfl!) : PA X (a :: es) (TAv X.K (aCons fa fs)) :=
  (pa_cons ha hr hs).imp fun _ _ _ h => tav_cons h
theorem d_tup {x1} (h : PA X es (TAv X.K fs)) : PE X (.Tuple es x1 pos) (TEv X.K (eApp gTupD fs)) := (pe_tup h).imp fun _ _ _ h => tev_tup h
theorem d_lst (h : PA X es (TAv X.K fs)) : PE X (.List es pos) (TEv X.K (eApp gLstD fs)) := (pe_lst h).imp fun _ _ _ h => tev_lst h
theorem d_callB {id : String} {x : Str} {p : Pos} {g : List D → Option D} (hc : CallX X (.builtin id) g) (hg : Gl X x) (hm : X.mg x = none) (hv : bootBuiltins x = some (.builtin id)) (ha : PA X (a :: es) (TAv X.K fs)) (hn : x ≠ "__name__" := by decide) (hdb : (x == ("__debug__" : Str)) = false := by decide)
    (he : starEach (a :: es) X.env = (false, eval a X.env) :: starEach es X.env := by kernel_rfl!) (hpl : (backTo pos (starEach es X.env)).any (·.1) = false := by kernel_rfl!) : PE X (.Call (.Name x p) (a :: es) [] pos) (TEv X.K (eApp g fs)) := by
  obtain ⟨r, h1, h2⟩ := hc
  exact (pe_callB h1 hg hm hv ha hn hdb he hpl).imp fun _ _ _ h => tev_app (t := tCB r) (r := r) (fun _ _ _ _ h => h) h2 h
theorem d_callTy {T : String} {x : Str} {p : Pos} {g : List D → Option D} (hc : CallX X (.type T) g) (hg : Gl X x) (hm : X.mg x = none) (hv : bootBuiltins x = some (.type T)) (ha : PA X (a :: es) (TAv X.K fs)) (hn : x ≠ "__name__" := by decide) (hdb : (x == ("__debug__" : Str)) = false := by decide)
    (he : starEach (a :: es) X.env = (false, eval a X.env) :: starEach es X.env := by kernel_rfl!) (hpl : (backTo pos (starEach es X.env)).any (·.1) = false := by kernel_rfl!) : PE X (.Call (.Name x p) (a :: es) [] pos) (TEv X.K (eApp g fs)) := by
  obtain ⟨r, h1, h2⟩ := hc
  exact (pe_callTy h1 hg hm hv ha hn hdb he hpl).imp fun _ _ _ h => tev_app (t := tCB r) (r := r) (fun _ _ _ _ h => h) h2 h

/-! tests -/
theorem q_val (h : PE X a (TEv X.K fa)) (he : ∀ whole, isTrue a X.env whole = (do let v ← whole; standAt a.pos; holding [v] (truthy v)) := by intro _; kernel_rfl!) : PT X a (TTv X.K fa) := (pt_val h he).imp fun _ _ _ h => ttv_val h
theorem q_cmp {op : CmpOp} {g : D → D → Option D} (ho : OpX X (compareOp op) g) (ha : PE X a (TEv X.K fa)) (hb : PE X b (TEv X.K fb)) (hm : behindInMarks op b = false) : PT X (.Compare a [op] [b] pos) (TTv X.K (eOp g fa fb)) := by
  obtain ⟨r, h1, h2⟩ := ho
  exact (pt_cmpR h1 ha hb hm).imp fun _ _ _ h => tev_op h2 (ttv_val h)
theorem q_not (ha : PT X a (TTv X.K fa)) : PT X (.UnaryOp .Not a pos) (TTv X.K (eNot fa)) := (pt_not ha).imp fun _ _ _ h => ttv_not h
theorem _root_.L2.PW.imp {X : Cx} {e : Expr} {t t' : TT} (h : PW X e t) (i : ∀ σ H Q, t' σ H Q → t σ H Q) : PW X e t' := ⟨fun wh pins s σ H Q I q => h.run wh pins s σ H Q I (i _ _ _ q)⟩
theorem w_and1 (ha : PT X a (TTv X.K fa)) : PW X (.BoolOp .And [a] pos) (TTv X.K fa) := pw_and1 ha
theorem w_or1 (ha : PT X a (TTv X.K fa)) : PW X (.BoolOp .Or [a] pos) (TTv X.K fa) := pw_or1 ha
theorem w_and (ha : PT X a (TTv X.K fa)) (hb : PW X (.BoolOp .And (b :: rest) pos) (TTv X.K fb)) : PW X (.BoolOp .And (a :: b :: rest) pos) (TTv X.K (eAnd fa fb)) := (pw_and ha hb).imp fun _ _ _ h => ttv_and h
theorem w_or (ha : PT X a (TTv X.K fa)) (hb : PW X (.BoolOp .Or (b :: rest) pos) (TTv X.K fb)) : PW X (.BoolOp .Or (a :: b :: rest) pos) (TTv X.K (eOr fa fb)) := (pw_or ha hb).imp fun _ _ _ h => ttv_or h
end
end WS
namespace WS
open PySem PySem.Spec PyProof.Rows L2

/-! ## a def's promise where no repr is under way -/
structure FnG (P : Program) (w : World) (K : PySem.W.Frag) (mg : Str → Option Value) (base : Heap) (CX : CXT) (k : Nat) (f : Addr) (fd : FuncData) (ps : List Str) (sp : Sp) : Prop where
  many : ∀ vs H Q E, sp vs H Q E → vs.length = ps.length
  go : ∀ (A : Around) (outer : List Env) (s : Shared) (H : Hp) (args : Args) (us : List Value) (vs : List V) (Q : VK) (E : XK), A.guards = some [] → Room k A →
    Env0 P w K mg base A outer s H → BindsTo s fd args (ps.zip us) → Vals vs us → sp vs H Q E → codeAny (model P w) A (.call (.ref f) args) (CR CX outer P w H s Q E) s

section
variable {P : Program} {w : World} {K : PySem.W.Frag} {mg : Str → Option Value} {base : Heap} {CX : CXT} {j k : Nat} {f : Addr} {fd : FuncData} {ps : List Str} {sp : Sp}
theorem FnG.of (F : FnOk P w K mg base CX k f fd ps sp) : FnG P w K mg base CX k f fd ps sp :=
  { many := F.len, go := fun A outer s H args us vs Q E _ hr e b v h => F.run A outer s H args us vs Q E hr e b v h }
theorem FnG.up (F : FnG P w K mg base CX j f fd ps sp) (h : j ≤ k) : FnG P w K mg base CX k f fd ps sp :=
  { many := F.many, go := fun A outer s H args us vs Q E hg hr e b v q => F.go A outer s H args us vs Q E hg (hr.mono h) e b v q }

/-- by its body -/
theorem fnG {name qual : Str} {params : Arguments} {body : List Stmt} {scope : Scope} {dV kV doc pm cdv ct oc : Value} {an od : Option Addr} {osl : Array (Option Value)} {N : List Str}
    (found : K.lookup f = some ⟨oc, od, .func (PySem.W.fnOf name qual params body scope dV kV doc pm an cdv ct), osl⟩) (code : PySem.W.codeIn K cdv qual = true) (SC : FnScope N ps scope)
    (many : ∀ vs H Q E, sp vs H Q E → vs.length = ps.length)
    (hb : ∀ (A : Around) (outer : List Env) (s : Shared) (H : Hp) (vs : List V) (Q : VK) (E : XK), A.guards = some [] → Room k (A.deeper (envOfC qual scope s.heap.objs.size f cdv)) → sp vs H Q E →
      ∃ t, PSs (cxOf CX P w K mg base N qual scope f cdv A outer s H E) body t ∧ t { nx := fun _ H' => Q .non H', rt := Q } (start N vs) H) :
    FnG P w K mg base CX (k + 1) f (PySem.W.fnOf name qual params body scope dV kV doc pm an cdv ct) ps sp where
  many := many
  go := fun A outer s H args us vs Q E hg hr e0 bd rv hsp => by
    have hlen := many vs H Q E hsp
    have inK : K.In s.heap := e0.mod.kin.keeps fun b o e => (e0.bs b o e).1
    have noL : s.heap.NoLimit := e0.mod.nolimit.keeps fun b o e => (e0.bs b o e).1
    have kinds : ∀ y ∈ ps.zip us, scope.names.lookup y.1 = some .local ∨ (scope.names.lookup y.1 = some .cell ∧ ((cellsFrom (s.heap.objs.size + 1) scope.names []).lookup y.1).isSome = true) := by
      intro y hy
      obtain ⟨n, v⟩ := y
      have hn : n ∈ ps := (List.of_mem_zip hy).1
      cases SC.par n hn with
      | inl q => exact Or.inl q
      | inr q => exact Or.inr ⟨q, PySem.W.cellsFrom_some _ _ _ (.inl q)⟩
    refine codeAny_call_function hr.depth (inK _ _ found) rfl SC.co SC.gen rfl (PySem.W.codeRec_of inK code) (bd _ _ _ _ ?_)
    refine wpAny_newFunctionEnv_cells SC.kind kinds fun env henv s1 inCall => ?_
    subst henv
    refine ⟨noL.keeps inCall.toInCall.keep, codeAny_func ?_⟩
    obtain ⟨t, ht, hq⟩ := hb A outer s H vs Q E hg (hr.deeper _) hsp
    have J0 := inv_start (CX := CX) (P := P) (w := w) (K := K) (mg := mg) (base := base) (qual := qual) (f := f) (cd := cdv) (E := E) SC hr.hd e0 hlen rv inCall
    refine wpAny_mono (ht.run [] s1 (start N vs) H _ J0 hq) ?_ (fun e s' he => he)
    intro fl s' hs
    cases fl with
    | ret u =>
      obtain ⟨v, σ', H', J, r', q⟩ := hs
      exact ⟨v, H', J.os, J.bare, J.base, J.hok, r', q⟩
    | next =>
      obtain ⟨σ', H', J, q⟩ := hs
      exact ⟨V.non, H', J.os, J.bare, J.base, J.hok, rfl, q⟩
    | brk => obtain ⟨_, _, _, q⟩ := hs; exact q.elim
    | cont => obtain ⟨_, _, _, q⟩ := hs; exact q.elim

/-- .. of the text -/
theorem fnG0 {x qual : Str} {st : Stmt} {N : List Str} (F : Fun K x qual st f fd) (SC : FnScope N ps (defScope st)) (many : ∀ vs H Q E, sp vs H Q E → vs.length = ps.length)
    (hb : ∀ (cdv : Value) (A : Around) (outer : List Env) (s : Shared) (H : Hp) (vs : List V) (Q : VK) (E : XK), A.guards = some [] → Room k (A.deeper (envOfC qual (defScope st) s.heap.objs.size f cdv)) → sp vs H Q E →
      ∃ t, PSs (cxOf CX0 P w K mg base N qual (defScope st) f cdv A outer s H E).nox (defBody st) t ∧ t { nx := fun _ H' => Q .non H', rt := Q } (start N vs) H) : FnG P w K mg base CX0 (k + 1) f fd ps sp := by
  obtain ⟨oc, od, kV, doc, pm, an, cdv, ct, osl, rfl, found, code⟩ := F.ex
  refine fnG found code SC many fun A outer s H vs Q E hg hr hsp => ?_
  obtain ⟨t, h1, h2⟩ := hb cdv A outer s H vs Q E hg hr hsp
  exact ⟨t, h1.nox, h2⟩
end

section
variable {X : Cx} {CX : CXT} {k : Nat} {f : Addr} {fd : FuncData} {ps : List Str} {sp : Sp} {dvs : List V} {ds : List Value} {E : XK} {x : Str} {p pos : Pos} {e : Expr} {es : List Expr} {t : TA}
theorem goG {pins : List (Addr × Obj)} {σ : L2.St} {H : Hp} {s : Shared} {Q : VK} {us : List Value} {vs : List V} (F : FnG X.prog X.w X.K X.mg X.base CX k f fd ps sp) (hg : X.A.guards = some []) (hr : Room k X.A) (hb : Binds X.K fd ps ds) (hd : Vals dvs ds) (hx : Passes CX X E)
    (I : Inv X pins σ H s) (r : Vals vs us) (h : sp (vs ++ dvs) H Q E) : wpAny (model X.prog X.w) X.A (call (.ref f) us) (EP X pins σ Q) X.xe s := by
  have rr : Vals (vs ++ dvs) (us ++ ds) := r.append hd
  have ll : (us ++ ds).length = ps.length := by rw [← rr.length]; exact F.many _ _ _ _ h
  refine wpAny_call (codeAny_mono (F.go X.A X.stack s H ⟨us, []⟩ _ _ Q E hg hr I.env0 (hb s us I.kIn ll) rr h) ?_)
  intro res s' hq
  cases res with
  | error err => exact hx pins σ H s err s' I hq
  | ok fl =>
    cases fl with
    | ret u => exact I.after hq
    | next => exact hq.elim
    | brk => exact hq.elim
    | cont => exact hq.elim
theorem callG (F : FnG X.prog X.w X.K X.mg X.base CX k f fd ps sp) (hgu : X.A.guards = some []) (hr : Room k X.A) (hg : Gl X x) (hm : X.mg x = some (.ref f)) (hk : PySem.W.keepIn X.K (.ref f) = true) (hb : Binds X.K fd ps ds) (hd : Vals dvs ds) (hx : Passes CX X E)
    (ha : PA X (e :: es) t) (hdb : (x == ("__debug__" : Str)) = false := by decide) (he : starEach (e :: es) X.env = (false, eval e X.env) :: starEach es X.env := by rfl) (hpl : (backTo pos (starEach es X.env)).any (·.1) = false := by rfl) :
    PE X (.Call (.Name x p) (e :: es) [] pos) (tCall sp dvs E t) := ⟨fun pins s σ H Q I h =>
  wpAny_Call_Name_kw (ld_glob I hg hm (PySem.W.callWith_K (h₀ := X.base) I.ok.mod.kin hk (thn (ha.run pos pins s σ H _ I h) fun us s1 ⟨vs, H1, I1, r, q⟩ => ⟨I1.kIn, goG F hgu hr hb hd hx I1 r q⟩) he hpl) hdb)⟩
theorem callG0 (F : FnG X.prog X.w X.K X.mg X.base CX k f fd ps sp) (hgu : X.A.guards = some []) (hr : Room k X.A) (hg : Gl X x) (hm : X.mg x = some (.ref f)) (hk : PySem.W.keepIn X.K (.ref f) = true) (hb : Binds X.K fd ps ds) (hd : Vals dvs ds) (hx : Passes CX X E)
    (hdb : (x == ("__debug__" : Str)) = false := by decide) : PE X (.Call (.Name x p) [] [] pos) (tCall sp dvs E tNil) := ⟨fun pins s σ H Q I h =>
  wpAny_Call_Name_kw (ld_glob I hg hm (PySem.W.callWith_K0 I.kIn hk (goG (us := []) F hgu hr hb hd hx I .nil h)) hdb)⟩
end

/-! ## the law's own call -/
section
variable {P : Program} {w : World} {K : PySem.W.Frag} {mg mb : Str → Option Value} {CX : CXT} {k : Nat} {fa a : Addr} {fd : FuncData} {x : Str} {sp : Sp} {s₁ : Shared} {vs : List Value} {ns : List Int}
theorem law_go {H : Hp} (KX : K.In s₁.heap) (hns : s₁.heap.Ns mainGlobals mg) (hb : s₁.heap.Ns builtinsNs mb) (hbb : ∀ x : Str, x ≠ "__name__" → mb x = bootBuiltins x) (hlim : s₁.heap.NoLimit) (hg : s₁.gens = #[])
    (ha : s₁.heap.get? a = some { cls := .type "list", data := .seq vs.toArray }) (hr : Room k callerA)
    (F : ∀ base : Heap, K.In base → base.Ns mainGlobals mg → FnG P w K mg base CX k fa fd [x] sp) (hbind : ∀ (s : Shared) (u : Value), BindsTo s fd ⟨[u], []⟩ [(x, u)])
    (hO : Only H) (hok : HOk P w H s₁.heap) (hA : ∀ b, H b ≠ none → b = a) (hK : H a ≠ none → K.lookup a = none)
    (hsp : sp [.ref a] H (fun v _ => v = .bl true) fun _ _ _ => False) (hCX : ∀ e s', CX [] H s₁ (fun _ _ _ => False) e s' → False) :
    codeAny (model P w) callerA (.call (.ref fa) ⟨[.ref a], []⟩) (fun r s' => r = .ok (.ret (.bool true)) ∧ OldK s₁.heap s'.heap ∧ s'.os = s₁.os ∧ AllBare s'.gens) s₁ := by
  have alone : ∀ {b : Addr} {o : Obj}, s₁.heap.get? b = some o → (∀ n, o.data ≠ .seq vs.toArray n) → H b = none := by
    intro b o e d
    cases q : H b with
    | none => rfl
    | some u =>
      have hb' : b = a := hA b (by rw [q]; intro z; cases z)
      rw [hb', ha] at e
      cases e
      exact absurd rfl (d _)
  have dictN : ∀ {b : Addr} {m : Str → Option Value}, s₁.heap.Ns b m → (hidT s₁.heap H).Ns b m := by
    intro b m h
    obtain ⟨o, es, ep, e, d, r⟩ := h
    exact ⟨o, es, ep, hidT_get e (alone e fun n z => by rw [d] at z; cases z), d, r⟩
  have inB : K.In (hidT s₁.heap H) := fun b o e => hidT_get (KX b o e) (by
    cases q : H b with
    | none => rfl
    | some u =>
      have hb' : b = a := hA b (by rw [q]; intro z; cases z)
      subst hb'
      rw [hK (by rw [q]; intro z; cases z)] at e; cases e)
  have lim2 : (hidT s₁.heap H).NoLimit := by
    obtain ⟨mc, h1, h2⟩ := hlim
    exact ⟨mc, dictN h1, h2⟩
  have M : Mod K mg (hidT s₁.heap H) := ⟨inB, dictN hns, ⟨mb, dictN hb, hbb⟩, lim2⟩
  have noM : ∀ b : Addr, b ∉ frs [] := fun b z => nomatch z
  have e0 : Env0 P w K mg (hidT s₁.heap H) callerA [] s₁ H := ⟨rfl, M, fun b o e => of_hidT e, Nat.le_of_eq (hidT_size _ _), trivial, fun b z => absurd z (noM b), hok, .of_eq hg⟩
  have run := (F _ inB (dictN hns)).go callerA [] s₁ H ⟨[.ref a], []⟩ [.ref a] [.ref a] _ _ rfl hr e0 (hbind s₁ (.ref a)) (.cons rfl .nil) hsp
  refine codeAny_mono run ?_
  intro r s' h
  cases r with
  | error e => exact (hCX e s' h).elim
  | ok fl =>
    cases fl with
    | next => exact h.elim
    | brk => exact h.elim
    | cont => exact h.elim
    | ret u =>
      obtain ⟨v, H', os, bare, un, ok2, rv, q⟩ := h
      have hv : v = .bl true := q
      subst hv
      cases rv
      refine ⟨rfl, OldK.of_keep ?_, os, bare⟩
      intro b o e
      cases q : H b with
      | none => exact un.keep b o e q (noM b) (fun z => nomatch z)
      | some u =>
        rcases hO b with z | ⟨ob, xs, z⟩
        · rw [q] at z; cases z
        · obtain ⟨e1, _⟩ := hok b _ z
          obtain ⟨e2, _⟩ := ok2 b _ (un.frzs b ob _ z)
          rw [e] at e1; cases e1
          exact e2

/-- the script's own place -/
def scriptH (a : Addr) (o : Obj) (u : HO) : Hp := fun b => if b = a then some (.frz o u) else none

theorem law_goes (KX : K.In s₁.heap) (hns : s₁.heap.Ns mainGlobals mg) (hb : s₁.heap.Ns builtinsNs mb) (hbb : ∀ x : Str, x ≠ "__name__" → mb x = bootBuiltins x) (hlim : s₁.heap.NoLimit) (hg : s₁.gens = #[])
    (ha : s₁.heap.get? a = some { cls := .type "list", data := .seq vs.toArray }) (hi : IntsAre vs ns) (hl : ns.length ≤ sizeLine) (hr : Room k callerA)
    (F : ∀ base : Heap, K.In base → base.Ns mainGlobals mg → FnG P w K mg base CX k fa fd [x] sp) (hbind : ∀ (s : Shared) (u : Value), BindsTo s fd ⟨[u], []⟩ [(x, u)])
    (hsp : ∀ H : Hp, Only H → SqL K H a (ns.map V.int) → sp [.ref a] H (fun v _ => v = .bl true) fun _ _ _ => False)
    (hCX : ∀ H e s', CX [] H s₁ (fun _ _ _ => False) e s' → False) :
    codeAny (model P w) callerA (.call (.ref fa) ⟨[.ref a], []⟩) (fun r s' => r = .ok (.ret (.bool true)) ∧ OldK s₁.heap s'.heap ∧ s'.os = s₁.os ∧ AllBare s'.gens) s₁ := by
  have rv := vals_ints hi
  have lenV := hi.length
  cases hk : K.lookup a with
  | some o =>
    have e := KX a o hk
    rw [ha] at e
    cases e
    have sq : SqL K (fun _ => none) a (ns.map V.int) := .inr ⟨_, vs.toArray, _, hk, rfl, rfl, rfl, by rw [List.size_toArray, lenV]; exact hl, by simpa using rv⟩
    exact law_go (H := fun _ => none) KX hns hb hbb hlim hg ha hr F hbind (fun _ => .inl rfl) (fun b u z => nomatch z) (fun b z => absurd rfl z) (fun z => absurd rfl z) (hsp _ (fun _ => .inl rfl) sq) fun e s' => hCX _ e s'
  | none =>
    have at_ : scriptH a { cls := .type "list", data := .seq vs.toArray } (.lst (ns.map V.int)) a = some (.frz { cls := .type "list", data := .seq vs.toArray } (.lst (ns.map V.int))) := if_pos rfl
    have off : ∀ b, b ≠ a → scriptH a { cls := .type "list", data := .seq vs.toArray } (.lst (ns.map V.int)) b = none := fun b q => if_neg q
    have only : Only (scriptH a { cls := .type "list", data := .seq vs.toArray } (.lst (ns.map V.int))) := fun b => by
      by_cases q : b = a
      · subst q; exact .inr ⟨_, _, at_⟩
      · exact .inl (off b q)
    refine law_go KX hns hb hbb hlim hg ha hr F hbind only (fun b u z => ?_) (fun b z => ?_) (fun _ => hk) (hsp _ only (.inl (.inr ⟨_, at_⟩))) fun e s' => hCX _ e s'
    · by_cases q : b = a
      · subst q
        rw [at_] at z
        cases z
        exact ⟨ha, by rw [List.length_map]; exact hl, vs, _, rv, ha⟩
      · rw [off b q] at z; cases z
    · by_cases q : b = a
      · exact q
      · exact absurd (off b q) z
end

theorem walkG {l : PySem.W.OpenLaw} {n k : Nat} {q : Program} {loose : List Str} {XP : (Str → Option Value) → Heap → Prop} {YP : World → Heap → Prop} {d : DefRec} {K : Params → PySem.W.Frag} {CX : World → CXT} {sp : World → Sp} {x : Str}
    (hn : l.most = some n) (hn2 : n ≤ sizeLine) (hdf : d.params.defaults = []) (hr : Room k callerA)
    (hY : ∀ (w : World) (h : Heap), YP w h → (K w.params).In h)
    (F : ∀ (w : World) (mg : Str → Option Value) (fa : Addr) (h : Heap), (K w.params).In h → h.Ns mainGlobals mg → mg d.name = some (.ref fa) →
      ∃ fd : FuncData, (∀ (s : Shared) (u : Value), BindsTo s fd ⟨[u], []⟩ [(x, u)]) ∧
        ∀ base : Heap, (K w.params).In base → base.Ns mainGlobals mg → FnG l.prog w (K w.params) mg base (CX w) k fa fd [x] (sp w))
    (hsp : ∀ (w : World) (H : Hp) (a : Addr) (ns : List Int), ns.length ≤ n → Only H → SqL (K w.params) H a (ns.map V.int) → sp w [.ref a] H (fun v _ => v = .bl true) fun _ _ _ => False)
    (hCX : ∀ (w : World) (H : Hp) (s : Shared) (e : Value) (s' : Shared), CX w [] H s (fun _ _ _ => False) e s' → False) :
    PySem.W.WalkO q loose XP YP l.row.toRowW d [] (fun f vs => PySem.call f vs) :=
  Att.attach_call hn hdf fun w s₀ s₁ mg mb fa o pm cd doc a vs ns G Y ho hd hcd hmg hobj hints hlen hg => by
    have inK := hY w _ Y
    obtain ⟨fd, bd, hF⟩ := F w mg fa _ inK G.T.g hmg
    exact law_goes inK G.T.g G.T.b G.T.builtins G.T.nolimit hg hobj hints (Nat.le_trans hlen hn2) hr hF bd (fun H hO hS => hsp w H a ns hlen hO hS) fun H e s' => hCX w H s₁ e s'
theorem walkGK {l : PySem.W.OpenLaw} {n k : Nat} {q : Program} {loose : List Str} {XP : (Str → Option Value) → Heap → Prop} {YP : World → Heap → Prop} {d : DefRec} {K : Params → PySem.W.Frag} {CX : CXT} {sp : PySem.W.Frag → Sp} {x : Str}
    (hn : l.most = some n) (hn2 : n ≤ sizeLine) (hdf : d.params.defaults = []) (hr : Room k callerA)
    (hY : ∀ (w : World) (h : Heap), YP w h → (K w.params).In h)
    (F : ∀ (w : World) (mg : Str → Option Value) (fa : Addr) (h : Heap), (K w.params).In h → h.Ns mainGlobals mg → mg d.name = some (.ref fa) →
      ∃ fd : FuncData, (∀ (s : Shared) (u : Value), BindsTo s fd ⟨[u], []⟩ [(x, u)]) ∧
        ∀ base : Heap, (K w.params).In base → base.Ns mainGlobals mg → FnG l.prog w (K w.params) mg base CX k fa fd [x] (sp (K w.params)))
    (hsp : ∀ (K : PySem.W.Frag) (H : Hp) (a : Addr) (ns : List Int), ns.length ≤ n → Only H → SqL K H a (ns.map V.int) → sp K [.ref a] H (fun v _ => v = .bl true) fun _ _ _ => False)
    (hCX : ∀ (H : Hp) (s : Shared) (e : Value) (s' : Shared), CX [] H s (fun _ _ _ => False) e s' → False) :
    PySem.W.WalkO q loose XP YP l.row.toRowW d [] (fun f vs => PySem.call f vs) :=
  walkG (K := K) (CX := fun _ => CX) (sp := fun w => sp (K w.params)) hn hn2 hdf hr hY F (fun w H a ns h1 h2 h3 => hsp (K w.params) H a ns h1 h2 h3) fun _ H s e s' => hCX H s e s'
end WS
namespace WS
open PySem PySem.Spec PyProof.Rows L2
/-- no exception is let out -/
def W0 : WX := fun _ _ _ _ => False
variable {W : WX}

/-! ## statements -/
inductive Out where
  | nx | rt (d : D) | bk | ct | ex (C : Str) (ns : List Str) (ds : List D)
abbrev SS := List Sl → Dk → Option (Out × List Sl × Dk)
def TSv (K : PySem.W.Frag) (W : WX) (f : SS) : TS := fun D' σ H => ∃ S F ρ dk o ρ' dk', Rep K σ H S F ρ dk ∧ f ρ dk = some (o, ρ', dk') ∧
  match o with
  | .nx => ∀ σ' H' S', Le S S' → Rep K σ' H' S' F ρ' dk' → D'.nx σ' H'
  | .rt d => ∀ v σ' H' S', Le S S' → Rep K σ' H' S' F ρ' dk' → Rp K S' v d → D'.rt v H'
  | .bk => ∀ σ' H' S', Le S S' → Rep K σ' H' S' F ρ' dk' → D'.bk σ' H'
  | .ct => ∀ σ' H' S', Le S S' → Rep K σ' H' S' F ρ' dk' → D'.ct σ' H'
  | .ex C ns ds => ∀ σ' H' S' cls d, Le S S' → Rep K σ' H' S' F ρ' dk' → ExRp K S' C ns ds cls d → W cls d σ' H'

def sNil : SS := fun ρ k => some (.nx, ρ, k)
def sSeq (a b : SS) : SS := fun ρ k => (a ρ k).bind fun x => match x.1 with
  | .nx => b x.2.1 x.2.2
  | _ => some x
def sRet (e : E) : SS := fun ρ k => (e ρ k).bind fun x => some (.rt x.1, x.2.1, x.2.2)
def sDrop (e : E) : SS := fun ρ k => (e ρ k).bind fun x => some (.nx, x.2.1, x.2.2)
def sIf (c : E) (a b : SS) : SS := fun ρ k => (c ρ k).bind fun x => match x.1 with
  | .bl true => a x.2.1 x.2.2
  | .bl false => b x.2.1 x.2.2
  | _ => none
abbrev Tg := D → List Sl → Option (List Sl)
def sAsg (g : Tg) (e : E) : SS := fun ρ k => (e ρ k).bind fun x => (g x.1 x.2.1).bind fun ρ' => some (.nx, ρ', x.2.2)
def gSet (i : Nat) : Tg := fun d ρ => some (ρ.set i (.val d))

section
variable {K : PySem.W.Frag} {σ : L2.St} {H H' : Hp} {S S' : Sx} {F : Hp} {ρ : List Sl} {dk : Dk}
theorem Owns.lt {i : Nat} {s : Sl} (h : ρ[i]? = some s) : i < ρ.length := by
  by_cases hl : i < ρ.length
  · exact hl
  · rw [List.getElem?_eq_none (Nat.le_of_not_lt hl)] at h; cases h

theorem DkAt.imp {no no' : Addr → Prop} (h : DkAt S H F dk no) (i : ∀ a, no' a → no a) : DkAt S H F dk no' := by
  cases dk with
  | none => exact h
  | some x =>
    obtain ⟨cells, at_, sum⟩ := x
    obtain ⟨a, c, q1, q2, q3, q4, q5, q6, q7, q8, q9⟩ := h
    exact ⟨a, c, q1, q2, q3, q4, q5, q6, q7, fun z => q8 (i _ z), fun z => q9 (i _ z)⟩

/-- a slot gets a finished thing -/
theorem Rep.put {i : Nat} {v : V} {d : D} (r : Rep K σ H S F ρ dk) (h : Rp K S v d) : Rep K (σ.set i (some v)) H S F (ρ.set i (.val d)) dk := by
  have own : ∀ (j : Nat) (c : D), (ρ.set i (.val d))[j]? = some (Sl.own c) → i ≠ j ∧ ρ[j]? = some (Sl.own c) := fun j c e => by
    by_cases q : i = j
    · subst q
      by_cases hl : i < ρ.length
      · rw [List.getElem?_set_self hl] at e; cases e
      · rw [List.getElem?_eq_none (by simpa using hl)] at e; cases e
    · exact ⟨q, by rw [List.getElem?_set_ne q] at e; exact e⟩
  refine ⟨r.sh, r.fh, r.fs, by simp [r.len], ?_, ?_, ?_⟩
  · intro j s e
    by_cases q : i = j
    · subst q
      have hl : i < ρ.length := by have := Owns.lt e; simpa using this
      rw [List.getElem?_set_self hl] at e
      cases e
      exact ⟨v, by rw [List.getElem?_set_self (by rw [r.len]; exact hl)], h⟩
    · rw [List.getElem?_set_ne q] at e
      have z := r.env j s e
      cases s with
      | no => trivial
      | val c => obtain ⟨u, z1, z2⟩ := z; exact ⟨u, by rw [List.getElem?_set_ne q]; exact z1, z2⟩
      | own c => obtain ⟨p, z1, z2⟩ := z; exact ⟨p, by rw [List.getElem?_set_ne q]; exact z1, z2⟩
  · intro j k c e p h1 h2 h3 h4
    obtain ⟨n1, h1⟩ := own j c h1
    obtain ⟨n2, h2⟩ := own k e h2
    rw [List.getElem?_set_ne n1] at h3
    rw [List.getElem?_set_ne n2] at h4
    exact r.dist j k c e p h1 h2 h3 h4
  · refine r.dka.imp fun a ⟨j, c, h1, h2⟩ => ?_
    obtain ⟨n1, h1⟩ := own j c h1
    rw [List.getElem?_set_ne n1] at h2
    exact ⟨j, c, h1, h2⟩

/-- a slot gets a new thing of its own -/
theorem Rep.putOwn {i : Nat} {p : Addr} {d : D} (r : Rep K σ H S F ρ dk) (g : Sub H H') (np : H p = none) (h : OwnAt K S H' p d) : Rep K (σ.set i (some (.ref p))) H' S F (ρ.set i (.own d)) dk := by
  have old : ∀ (j : Nat) (c : D), i ≠ j → (ρ.set i (.own d))[j]? = some (Sl.own c) → ρ[j]? = some (Sl.own c) := fun j c q e => by rw [List.getElem?_set_ne q] at e; exact e
  have nown : ∀ (j : Nat) (c : D), ρ[j]? = some (Sl.own c) → σ[j]? ≠ some (some (V.ref p)) := fun j c e z => by
    obtain ⟨p', h1, h2, _⟩ := r.env j _ e
    rw [z] at h1; cases h1
    obtain ⟨o, ho⟩ := h2.at
    rw [np] at ho; cases ho
  have nS : S.hp p = none := r.sh.none np
  have nF : F p = none := r.fh.none np
  refine ⟨r.sh.trans g, r.fh.trans g, r.fs, by simp [r.len], ?_, ?_, ?_⟩
  · intro j s e
    by_cases q : i = j
    · subst q
      have hl : i < ρ.length := by have := Owns.lt e; simpa using this
      rw [List.getElem?_set_self hl] at e
      cases e
      exact ⟨p, by rw [List.getElem?_set_self (by rw [r.len]; exact hl)], h, nS, nF⟩
    · rw [List.getElem?_set_ne q] at e
      have z := r.env j s e
      cases s with
      | no => trivial
      | val c => obtain ⟨u, z1, z2⟩ := z; exact ⟨u, by rw [List.getElem?_set_ne q]; exact z1, z2⟩
      | own c => obtain ⟨p', z1, z2, z3⟩ := z; exact ⟨p', by rw [List.getElem?_set_ne q]; exact z1, z2.grow (Le.refl S) g, z3⟩
  · intro j k c e p' h1 h2 h3 h4
    by_cases q1 : i = j
    · by_cases q2 : i = k
      · rw [← q1, ← q2]
      · subst q1
        have hl : i < σ.length := by rw [r.len]; have := Owns.lt h1; simpa using this
        rw [List.getElem?_set_self hl] at h3
        cases h3
        rw [List.getElem?_set_ne q2] at h4
        exact (nown k e (old k e q2 h2) h4).elim
    · by_cases q2 : i = k
      · subst q2
        have hl : i < σ.length := by rw [r.len]; have := Owns.lt h2; simpa using this
        rw [List.getElem?_set_self hl] at h4
        cases h4
        rw [List.getElem?_set_ne q1] at h3
        exact (nown j c (old j c q1 h1) h3).elim
      · rw [List.getElem?_set_ne q1] at h3
        rw [List.getElem?_set_ne q2] at h4
        exact r.dist j k c e p' (old j c q1 h1) (old k e q2 h2) h3 h4
  · have q := r.dka
    cases dk with
    | none => exact q
    | some x =>
      obtain ⟨cells, at_, sum⟩ := x
      obtain ⟨a, c, q1, q2, q3, q4, q5, q6, q7, q8, q9⟩ := q
      have ne : ∀ b o, H b = some o → ¬ Owns σ ρ b → ¬ Owns (σ.set i (some (.ref p))) (ρ.set i (.own d)) b := fun b o e n z => by
        obtain ⟨j, c', z1, z2⟩ := z
        by_cases q : i = j
        · subst q
          have hl : i < σ.length := by rw [r.len]; have := Owns.lt z1; simpa using this
          rw [List.getElem?_set_self hl] at z2
          cases z2
          rw [np] at e; cases e
        · rw [List.getElem?_set_ne q] at z2
          exact n ⟨j, c', old j c' q z1, z2⟩
      exact ⟨a, c, q1, g _ _ q2, g _ _ q3, q4, q5, q6, q7, ne _ _ q2 q8, ne _ _ q3 q9⟩

/-- an own thing changes -/
theorem Rep.turnOwn {i : Nat} {p : Addr} {c d : D} {o : HO} (r : Rep K σ H S F ρ dk) (hi : ρ[i]? = some (Sl.own c)) (hp : σ[i]? = some (some (V.ref p))) (h : OwnAt K S (upd H p o) p d) : Rep K σ (upd H p o) S F (ρ.set i (.own d)) dk := by
  have hl := Owns.lt hi
  obtain ⟨p', hp', oa, nS, nF⟩ := r.env i _ hi
  rw [hp] at hp'; cases hp'
  have old : ∀ (j : Nat) (e : D), i ≠ j → (ρ.set i (.own d))[j]? = some (Sl.own e) → ρ[j]? = some (Sl.own e) := fun j c q e => by rw [List.getElem?_set_ne q] at e; exact e
  have back : ∀ (j : Nat) (e : D), (ρ.set i (.own d))[j]? = some (Sl.own e) → ∃ e', ρ[j]? = some (Sl.own e') := fun j e z => by
    by_cases q : i = j
    · subst q; exact ⟨c, hi⟩
    · exact ⟨e, old j e q z⟩
  refine ⟨fun a u e => ?_, fun a u e => ?_, r.fs, by simp [r.len], ?_, ?_, ?_⟩
  · rw [upd_ne (ne_of_none e nS)]; exact r.sh _ _ e
  · rw [upd_ne (ne_of_none e nF)]; exact r.fh _ _ e
  · intro j s e
    by_cases q : i = j
    · subst q
      rw [List.getElem?_set_self hl] at e
      cases e
      exact ⟨p, hp, h, nS, nF⟩
    · rw [List.getElem?_set_ne q] at e
      have z := r.env j s e
      cases s with
      | no => trivial
      | val c => exact z
      | own c' =>
        obtain ⟨p', z1, z2, z3⟩ := z
        have ne : p' ≠ p := fun w => by subst w; exact q (r.dist i j c c' p' hi e hp z1)
        refine ⟨p', z1, ?_, z3⟩
        cases c' with
        | lst ds => obtain ⟨xs, e1, e2⟩ := z2; exact ⟨xs, by rw [upd_ne ne]; exact e1, e2⟩
        | dct ks ds => obtain ⟨xs, e1, e2⟩ := z2; exact ⟨xs, by rw [upd_ne ne]; exact e1, e2⟩
        | ins nm ns ds => obtain ⟨C, dx, fs, e1, e2⟩ := z2; exact ⟨C, dx, fs, by rw [upd_ne ne]; exact e1, e2⟩
        | _ => exact z2.elim
  · intro j k e1 e2 q h1 h2 h3 h4
    obtain ⟨e1', h1⟩ := back j e1 h1
    obtain ⟨e2', h2⟩ := back k e2 h2
    exact r.dist j k e1' e2' q h1 h2 h3 h4
  · have q := r.dka
    cases dk with
    | none => exact q
    | some x =>
      obtain ⟨cells, at_, sum⟩ := x
      obtain ⟨a, c', q1, q2, q3, q4, q5, q6, q7, q8, q9⟩ := q
      have ow : Owns σ ρ p := ⟨i, c, hi, hp⟩
      have ne : ∀ b, ¬ Owns σ ρ b → ¬ Owns σ (ρ.set i (.own d)) b := fun b n z => by
        obtain ⟨j, e, z1, z2⟩ := z
        obtain ⟨e', z1⟩ := back j e z1
        exact n ⟨j, e', z1, z2⟩
      exact ⟨a, c', q1, by rw [upd_ne (show a ≠ p from fun z => q8 (by rw [z]; exact ow))]; exact q2, by rw [upd_ne (show c' ≠ p from fun z => q9 (by rw [z]; exact ow))]; exact q3, q4, q5, q6, q7, ne _ q8, ne _ q9⟩

theorem tsv_nil {D' : Ends} (h : TSv K W sNil D' σ H) : tNext D' σ H := by
  obtain ⟨S, F, ρ, dk, o, ρ', dk', R, e, q⟩ := h
  cases e
  exact q σ H S (Le.refl S) R
theorem tsv_seq {a b : SS} {D' : Ends} (h : TSv K W (sSeq a b) D' σ H) : tSeq (TSv K W a) (TSv K W b) D' σ H := by
  obtain ⟨S, F, ρ, dk, o, ρ', dk', R, e, q⟩ := h
  unfold sSeq at e
  cases ea : a ρ dk with
  | none => rw [ea] at e; cases e
  | some x =>
    obtain ⟨o1, ρ1, k1⟩ := x
    rw [ea] at e
    simp only [Option.bind_some] at e
    refine ⟨S, F, ρ, dk, o1, ρ1, k1, R, ea, ?_⟩
    cases o1 with
    | nx =>
      intro σ' H' S' l R'
      refine ⟨S', F, ρ1, k1, o, ρ', dk', R', e, ?_⟩
      cases o with
      | nx => exact fun σ2 H2 S2 l2 R2 => q σ2 H2 S2 (l.trans l2) R2
      | rt d => exact fun v σ2 H2 S2 l2 R2 rv => q v σ2 H2 S2 (l.trans l2) R2 rv
      | bk => exact fun σ2 H2 S2 l2 R2 => q σ2 H2 S2 (l.trans l2) R2
      | ct => exact fun σ2 H2 S2 l2 R2 => q σ2 H2 S2 (l.trans l2) R2
      | ex C ns ds => exact fun σ2 H2 S2 cls d l2 R2 x => q σ2 H2 S2 cls d (l.trans l2) R2 x
    | ex C ns ds => cases e; exact q
    | rt d => cases e; exact q
    | bk => cases e; exact q
    | ct => cases e; exact q
theorem tsv_ret {f : E} {D' : Ends} (h : TSv K W (sRet f) D' σ H) : tRet (TEv K f) D' σ H := by
  obtain ⟨S, F, ρ, dk, o, ρ', dk', R, e, q⟩ := h
  unfold sRet at e
  cases ea : f ρ dk with
  | none => rw [ea] at e; cases e
  | some x =>
    obtain ⟨d, ρ1, k1⟩ := x
    rw [ea] at e
    cases e
    exact ⟨S, F, ρ, dk, d, _, _, R, ea, fun v H' S' l R' rv => q v σ H' S' l R' rv⟩
theorem tsv_drop {f : E} {D' : Ends} (h : TSv K W (sDrop f) D' σ H) : tDrop (TEv K f) D' σ H := by
  obtain ⟨S, F, ρ, dk, o, ρ', dk', R, e, q⟩ := h
  unfold sDrop at e
  cases ea : f ρ dk with
  | none => rw [ea] at e; cases e
  | some x =>
    obtain ⟨d, ρ1, k1⟩ := x
    rw [ea] at e
    cases e
    exact ⟨S, F, ρ, dk, d, _, _, R, ea, fun v H' S' l R' rv => q σ H' S' l R'⟩
theorem tsv_if {c : E} {a b : SS} {D' : Ends} (h : TSv K W (sIf c a b) D' σ H) : tIfS (TTv K c) (TSv K W a) (TSv K W b) D' σ H := by
  obtain ⟨S, F, ρ, dk, o, ρ', dk', R, e, q⟩ := h
  unfold sIf at e
  cases ea : c ρ dk with
  | none => rw [ea] at e; cases e
  | some x =>
    obtain ⟨d, ρ1, k1⟩ := x
    rw [ea] at e
    simp only [Option.bind_some] at e
    have fin : ∀ (H1 : Hp) (S1 : Sx), Le S S1 → Rep K σ H1 S1 F ρ1 k1 → ∀ f : SS, f ρ1 k1 = some (o, ρ', dk') → TSv K W f D' σ H1 := fun H1 S1 l R1 f ef => by
      refine ⟨S1, F, ρ1, k1, o, ρ', dk', R1, ef, ?_⟩
      cases o with
      | nx => exact fun σ2 H2 S2 l2 R2 => q σ2 H2 S2 (l.trans l2) R2
      | rt d => exact fun v σ2 H2 S2 l2 R2 rv => q v σ2 H2 S2 (l.trans l2) R2 rv
      | bk => exact fun σ2 H2 S2 l2 R2 => q σ2 H2 S2 (l.trans l2) R2
      | ct => exact fun σ2 H2 S2 l2 R2 => q σ2 H2 S2 (l.trans l2) R2
      | ex C ns ds => exact fun σ2 H2 S2 cls d l2 R2 x => q σ2 H2 S2 cls d (l.trans l2) R2 x
    split at e
    · exact ⟨S, F, ρ, dk, true, ρ1, k1, R, ea, fun H1 S1 l R1 => fin H1 S1 l R1 a e⟩
    · exact ⟨S, F, ρ, dk, false, ρ1, k1, R, ea, fun H1 S1 l R1 => fin H1 S1 l R1 b e⟩
    · cases e

/-! targets -/
def TGv (K : PySem.W.Frag) (vs : List Nat) (g : Tg) : TG := fun v σ H Q => ∃ S F ρ dk d ρ', Rep K σ H S F ρ dk ∧ Rp K S v d ∧ g d ρ = some ρ' ∧ ∀ σ' H' S', Le S S' → Rep K σ' H' S' F ρ' dk → σ'.length = σ.length → (∀ i, i ∉ vs → σ'[i]? = σ[i]?) → Q σ' H'
theorem tgv_set {i : Nat} {v : V} {Q : L2.St → Hp → Prop} (h : TGv K [i] (gSet i) v σ H Q) : gName i v σ H Q := by
  obtain ⟨S, F, ρ, dk, d, ρ', R, rv, e, q⟩ := h
  cases e
  exact q _ H S (Le.refl S) (R.put rv) (by simp) fun j hj => by rw [List.getElem?_set_ne (fun z => hj (by simp [z]))]
theorem tsv_asg {vs : List Nat} {f : E} {g : Tg} {D' : Ends} (h : TSv K W (sAsg g f) D' σ H) : tAsg (TEv K f) (TGv K vs g) D' σ H := by
  obtain ⟨S, F, ρ, dk, o, ρ', dk', R, e, q⟩ := h
  unfold sAsg at e
  cases ea : f ρ dk with
  | none => rw [ea] at e; cases e
  | some x =>
    obtain ⟨d, ρ1, k1⟩ := x
    rw [ea] at e
    simp only [Option.bind_some] at e
    cases eg : g d ρ1 with
    | none => rw [eg] at e; cases e
    | some ρ2 =>
      rw [eg] at e
      cases e
      exact ⟨S, F, ρ, dk, d, ρ1, _, R, ea, fun v H' S' l R' rv => ⟨S', F, ρ1, _, d, _, R', rv, eg, fun σ2 H2 S2 l2 R2 _ _ => q σ2 H2 S2 (l.trans l2) R2⟩⟩
end

/-! ## what is walked -/
/-- from S on, the iterator gives ds -/
def ItD (K : PySem.W.Frag) (S : Sx) (J : It) (ds : List D) : Prop := ∀ (S1 : Sx) (H1 : Hp), Le S S1 → Sub S1.hp H1 → ∀ i : Nat,
  (∀ d, ds[i]? = some d → J.go i H1 ∧ ∀ x H2, J.yld i H1 x H2 → ∃ S2, Grow S1 H1 S2 H2 ∧ Rp K S2 x d) ∧ (ds[i]? = none → J.stop i H1)
def TIv (K : PySem.W.Frag) (f : EL) : TI := fun σ H R => ∃ S F ρ dk ds ρ' dk', Rep K σ H S F ρ dk ∧ f ρ dk = some (ds, ρ', dk') ∧
  ∀ J H' S', Le S S' → Rep K σ H' S' F ρ' dk' → ItD K S' J ds → R J H'
theorem _root_.L2.PI.imp {X : Cx} {tg e : Expr} {t t' : TI} (h : PI X tg e t) (i : ∀ σ H Q, t' σ H Q → t σ H Q) : PI X tg e t' := ⟨fun pins s σ H Q I q => h.run pins s σ H Q I (i _ _ _ q)⟩
theorem _root_.L2.PG.imp {X : Cx} {e : Expr} {t t' : TG} (h : PG X e t) (i : ∀ v σ H Q, t' v σ H Q → t v σ H Q) : PG X e t' := ⟨fun pins s σ H v u Q I r q => h.run pins s σ H v u Q I r (i _ _ _ _ q)⟩

def sForGo (g : Tg) (body : SS) : List D → SS
  | [] => sNil
  | d :: ds => fun ρ k => (g d ρ).bind fun ρ1 => (body ρ1 k).bind fun x => match x.1 with
    | .nx => sForGo g body ds x.2.1 x.2.2
    | .ct => sForGo g body ds x.2.1 x.2.2
    | .bk => some (.nx, x.2.1, x.2.2)
    | .rt d => some (.rt d, x.2.1, x.2.2)
    | .ex C ns ds => some (.ex C ns ds, x.2.1, x.2.2)
def sFor (src : EL) (g : Tg) (body : SS) : SS := fun ρ k => (src ρ k).bind fun x => sForGo g body x.1 x.2.1 x.2.2

section
variable {K : PySem.W.Frag} {σ : L2.St} {H H' : Hp}
theorem tsv_for {vs : List Nat} {src : EL} {g : Tg} {body : SS} {D' : Ends} (h : TSv K W (sFor src g body) D' σ H) : tFor (TIv K src) (TGv K vs g) (TSv K W body) D' σ H := by
  obtain ⟨S, F, ρ, dk, o, ρ', dk', R, e, q⟩ := h
  unfold sFor at e
  cases ea : src ρ dk with
  | none => rw [ea] at e; cases e
  | some x =>
    obtain ⟨ds, ρ1, k1⟩ := x
    rw [ea] at e
    simp only [Option.bind_some] at e
    refine ⟨S, F, ρ, dk, ds, ρ1, k1, R, ea, fun J H1 S1 l1 R1 it => ?_⟩
    refine ⟨fun i m σ H => m = ds.length - i ∧ ∃ S2 ρ2 k2, Le S1 S2 ∧ Rep K σ H S2 F ρ2 k2 ∧ sForGo g body (ds.drop i) ρ2 k2 = some (o, ρ', dk'), ⟨ds.length, by omega, S1, ρ1, k1, Le.refl S1, R1, by rw [List.drop_zero]; exact e⟩, ?_⟩
    rintro i m σ2 H2 ⟨hm, S2, ρ2, k2, l2, R2, e2⟩
    obtain ⟨it1, it2⟩ := it S2 H2 l2 R2.sh i
    cases hd : ds[i]? with
    | none =>
      have hdr : ds.drop i = [] := List.drop_eq_nil_iff.mpr (List.getElem?_eq_none_iff.mp hd)
      rw [hdr] at e2
      cases e2
      exact .inl ⟨it2 hd, q σ2 H2 S2 (l1.trans l2) R2⟩
    | some d =>
      obtain ⟨go, yld⟩ := it1 d hd
      have hi : i < ds.length := by
        by_cases hl : i < ds.length
        · exact hl
        · rw [List.getElem?_eq_none (Nat.le_of_not_lt hl)] at hd; cases hd
      have hdr : ds.drop i = d :: ds.drop (i + 1) := by
        rw [List.drop_eq_getElem_cons hi]
        rw [List.getElem?_eq_getElem hi] at hd
        cases hd; rfl
      rw [hdr] at e2
      unfold sForGo at e2
      cases eg : g d ρ2 with
      | none => rw [eg] at e2; cases e2
      | some ρ3 =>
        rw [eg] at e2
        simp only [Option.bind_some] at e2
        cases eb : body ρ3 k2 with
        | none => rw [eb] at e2; cases e2
        | some y =>
          obtain ⟨o4, ρ4, k4⟩ := y
          rw [eb] at e2
          simp only [Option.bind_some] at e2
          refine .inr ⟨go, fun σ' H' => ∃ S5, Le S1 S5 ∧ Rep K σ' H' S5 F ρ4 k4 ∧ sForGo g body (ds.drop (i + 1)) ρ4 k4 = some (o, ρ', dk'), fun σ' H' ⟨S5, l5, R5, e5⟩ => ⟨ds.length - (i + 1), by omega, rfl, S5, ρ4, k4, l5, R5, e5⟩, fun x H3 hy => ?_⟩
          obtain ⟨S3, gr, rx⟩ := yld x H3 hy
          refine ⟨S3, F, ρ2, k2, d, ρ3, R2.grow gr, rx, eg, fun σ4 H4 S4 l4 R4 _ _ => ?_⟩
          have l04 : Le S1 S4 := (l2.trans gr.le).trans l4
          refine ⟨S4, F, ρ3, k2, o4, ρ4, k4, R4, eb, ?_⟩
          cases o4 with
          | nx => exact fun σ5 H5 S5 l5 R5 => ⟨S5, l04.trans l5, R5, e2⟩
          | ct => exact fun σ5 H5 S5 l5 R5 => ⟨S5, l04.trans l5, R5, e2⟩
          | bk =>
            cases e2
            exact fun σ5 H5 S5 l5 R5 => q σ5 H5 S5 (l1.trans (l04.trans l5)) R5
          | rt d5 =>
            cases e2
            exact fun v σ5 H5 S5 l5 R5 rv => q v σ5 H5 S5 (l1.trans (l04.trans l5)) R5 rv
          | ex C ns ds =>
            cases e2
            exact fun σ5 H5 S5 cls d l5 R5 x => q σ5 H5 S5 cls d (l1.trans (l04.trans l5)) R5 x
end

/-! ## comprehensions -/
def wipeS (ρ : List Sl) : List Nat → List Sl
  | [] => ρ
  | v :: vs => (wipeS ρ vs).set v .no
def eCompGo (vs : List Nat) (g : Tg) (tt elt : E) : List D → EL
  | [] => fun ρ k => some ([], ρ, k)
  | d :: ds => fun ρ k => (g d ρ).bind fun ρ1 => (tt ρ1 k).bind fun b => match b.1 with
    | .bl true => (elt b.2.1 b.2.2).bind fun y => (eCompGo vs g tt elt ds (wipeS y.2.1 vs) y.2.2).map fun z => (y.1 :: z.1, z.2)
    | .bl false => eCompGo vs g tt elt ds (wipeS b.2.1 vs) b.2.2
    | _ => none
def eComp (src : EL) (vs : List Nat) (g : Tg) (tt elt : E) : E := fun ρ k => (src ρ k).bind fun x => if x.1.length < sizeLine then (eCompGo vs g tt elt x.1 (wipeS x.2.1 vs) x.2.2).map fun y => (.lst y.1, y.2) else none

section
variable {K : PySem.W.Frag} {σ : L2.St} {H H' : Hp} {S S' : Sx} {F : Hp} {ρ : List Sl} {dk : Dk}
theorem wipeS_length (ρ : List Sl) : ∀ vs, (wipeS ρ vs).length = ρ.length
  | [] => rfl
  | v :: vs => by simp [wipeS, wipeS_length ρ vs]
theorem wipeS_get {i : Nat} {s : Sl} : ∀ {vs : List Nat}, (wipeS ρ vs)[i]? = some s → s = .no ∨ (ρ[i]? = some s ∧ i ∉ vs)
  | [], h => .inr ⟨h, by simp⟩
  | v :: vs, h => by
    unfold wipeS at h
    by_cases q : v = i
    · subst q
      have hl : v < (wipeS ρ vs).length := by have := Owns.lt h; simpa using this
      rw [List.getElem?_set_self hl] at h
      cases h; exact .inl rfl
    · rw [List.getElem?_set_ne q] at h
      rcases wipeS_get h with z | ⟨z1, z2⟩
      · exact .inl z
      · exact .inr ⟨z1, by simp [z2, Ne.symm q]⟩
theorem wipe_get {i : Nat} : ∀ {vs : List Nat}, i ∉ vs → (wipe σ vs)[i]? = σ[i]?
  | [], _ => rfl
  | v :: vs, h => by
    unfold wipe
    rw [List.getElem?_set_ne (fun e => h (by simp [e]))]
    exact wipe_get (fun z => h (by simp [z]))
theorem wipe_in {σ1 σ2 : L2.St} {i : Nat} (hl : σ1.length = σ2.length) : ∀ {vs : List Nat}, i ∈ vs → (wipe σ1 vs)[i]? = (wipe σ2 vs)[i]?
  | [], h => by simp at h
  | v :: vs, h => by
    unfold wipe
    rw [List.getElem?_set, List.getElem?_set]
    by_cases q : v = i
    · rw [if_pos q, if_pos q, wipe_length, wipe_length, hl]
    · rw [if_neg q, if_neg q]
      exact wipe_in hl (by simpa [Ne.symm q] using h)
/-- slots forgotten -/
theorem Rep.wiped {σ2 : L2.St} {vs : List Nat} (r : Rep K σ H S F ρ dk) (hl : σ2.length = σ.length) (he : ∀ i, i ∉ vs → σ2[i]? = σ[i]?) : Rep K σ2 H S F (wipeS ρ vs) dk := by
  refine ⟨r.sh, r.fh, r.fs, by rw [hl, wipeS_length]; exact r.len, ?_, ?_, ?_⟩
  · intro i s e
    rcases wipeS_get e with z | ⟨z1, z2⟩
    · subst z; trivial
    · have q := r.env i s z1
      cases s with
      | no => trivial
      | val d => obtain ⟨v, q1, q2⟩ := q; exact ⟨v, by rw [he i z2]; exact q1, q2⟩
      | own d => obtain ⟨p, q1, q2⟩ := q; exact ⟨p, by rw [he i z2]; exact q1, q2⟩
  · intro i j d e p h1 h2 h3 h4
    rcases wipeS_get h1 with z | ⟨z1, z2⟩
    · cases z
    · rcases wipeS_get h2 with y | ⟨y1, y2⟩
      · cases y
      · rw [he i z2] at h3
        rw [he j y2] at h4
        exact r.dist i j d e p z1 y1 h3 h4
  · refine r.dka.imp fun a ⟨i, d, h1, h2⟩ => ?_
    rcases wipeS_get h1 with z | ⟨z1, z2⟩
    · cases z
    · rw [he i z2] at h2
      exact ⟨i, d, z1, h2⟩

/-- a new thing is put into the frame -/
theorem Rep.frame {p : Addr} {o : HO} (r : Rep K σ H S F ρ dk) (n : H p = none) : Rep K σ (upd H p o) S (upd F p o) ρ dk := by
  have gh : Sub H (upd H p o) := Sub.new n
  have up : ∀ a, a ≠ p → upd F p o a = F a := fun a q => upd_ne q
  have fz : ∀ a, H a ≠ none → F a = none → upd F p o a = none := fun a q z => by rw [up a (fun w => by subst w; exact q n)]; exact z
  refine ⟨r.sh.trans gh, fun a u e => ?_, fun a u e => ?_, r.len, fun i s e => ?_, r.dist, ?_⟩
  · by_cases q : a = p
    · subst q; rw [upd_same] at e ⊢; exact e
    · rw [upd_ne q] at e ⊢; exact r.fh _ _ e
  · by_cases q : a = p
    · subst q; exact r.sh.none n
    · rw [upd_ne q] at e; exact r.fs _ _ e
  · have q := r.env i s e
    cases s with
    | no => trivial
    | val d => exact q
    | own d =>
      obtain ⟨p', q1, q2, q3, q4⟩ := q
      obtain ⟨u, hu⟩ := q2.at
      exact ⟨p', q1, q2.grow (Le.refl S) gh, q3, fz _ (by rw [hu]; intro z; cases z) q4⟩
  · have q := r.dka
    cases dk with
    | none => exact q
    | some x =>
      obtain ⟨cells, at_, sum⟩ := x
      obtain ⟨a, c, q1, q2, q3, q4, q5, q6, q7, q8, q9⟩ := q
      exact ⟨a, c, q1, gh _ _ q2, gh _ _ q3, q4, q5, fz _ (by rw [q2]; intro z; cases z) q6, fz _ (by rw [q3]; intro z; cases z) q7, q8, q9⟩
/-- a thing of the frame is changed -/
theorem Rep.turnF {p : Addr} {o o' : HO} (r : Rep K σ H S (upd F p o) ρ dk) : Rep K σ (upd H p o') S (upd F p o') ρ dk := by
  have hp : H p = some o := r.fh _ _ upd_same
  have sp : S.hp p = none := r.fs _ _ upd_same
  have fne : ∀ a, a ≠ p → upd F p o a = upd F p o' a := fun a q => by rw [upd_ne q, upd_ne q]
  refine ⟨fun a u e => ?_, fun a u e => ?_, fun a u e => ?_, r.len, fun i s e => ?_, r.dist, ?_⟩
  · rw [upd_ne (ne_of_none e sp)]; exact r.sh _ _ e
  · by_cases q : a = p
    · subst q; rw [upd_same] at e ⊢; exact e
    · rw [← fne a q] at e; rw [upd_ne q]; exact r.fh _ _ e
  · by_cases q : a = p
    · subst q; exact sp
    · rw [← fne a q] at e; exact r.fs _ _ e
  · have q := r.env i s e
    cases s with
    | no => trivial
    | val d => exact q
    | own d =>
      obtain ⟨p', q1, q2, q3, q4⟩ := q
      have ne : p' ≠ p := fun z => by subst z; rw [upd_same] at q4; cases q4
      refine ⟨p', q1, ?_, q3, by rw [← fne p' ne]; exact q4⟩
      cases d with
      | lst ds => obtain ⟨xs, e1, e2⟩ := q2; exact ⟨xs, by rw [upd_ne ne]; exact e1, e2⟩
      | dct ks ds => obtain ⟨xs, e1, e2⟩ := q2; exact ⟨xs, by rw [upd_ne ne]; exact e1, e2⟩
      | ins nm ns ds => obtain ⟨C, dx, fs, e1, e2⟩ := q2; exact ⟨C, dx, fs, by rw [upd_ne ne]; exact e1, e2⟩
      | _ => exact q2.elim
  · have q := r.dka
    cases dk with
    | none => exact q
    | some x =>
      obtain ⟨cells, at_, sum⟩ := x
      obtain ⟨a, c, q1, q2, q3, q4, q5, q6, q7, q8, q9⟩ := q
      have na : a ≠ p := fun z => by subst z; rw [upd_same] at q6; cases q6
      have nc : c ≠ p := fun z => by subst z; rw [upd_same] at q7; cases q7
      exact ⟨a, c, q1, by rw [upd_ne na]; exact q2, by rw [upd_ne nc]; exact q3, q4, q5, by rw [← fne a na]; exact q6, by rw [← fne c nc]; exact q7, q8, q9⟩
/-- a thing of the frame is finished -/
theorem Rep.unframe {p : Addr} {o : HO} (r : Rep K σ H S (upd F p o) ρ dk) (n : F p = none) : Rep K σ H (S.add p o) F ρ dk := by
  have hp : H p = some o := r.fh _ _ upd_same
  have sp : S.hp p = none := r.fs _ _ upd_same
  have le : Le S (S.add p o) := ⟨Sub.new sp, fun a e => e⟩
  have sn : ∀ a, a ≠ p → (S.add p o).hp a = S.hp a := fun a q => upd_ne q
  have fr : ∀ a, upd F p o a = none → a ≠ p ∧ F a = none := fun a e => by
    by_cases q : a = p
    · subst q; rw [upd_same] at e; cases e
    · rw [upd_ne q] at e; exact ⟨q, e⟩
  refine ⟨fun a u e => ?_, fun a u e => ?_, fun a u e => ?_, r.len, fun i s e => ?_, r.dist, ?_⟩
  · by_cases q : a = p
    · subst q; rw [Sx.add_at] at e; rw [hp]; exact e
    · rw [sn a q] at e; exact r.sh _ _ e
  · have q : a ≠ p := fun z => by subst z; rw [n] at e; cases e
    exact r.fh a u (by rw [upd_ne q]; exact e)
  · have q : a ≠ p := fun z => by subst z; rw [n] at e; cases e
    rw [sn a q]
    exact r.fs a u (by rw [upd_ne q]; exact e)
  · have q := r.env i s e
    cases s with
    | no => trivial
    | val d => obtain ⟨v, q1, q2⟩ := q; exact ⟨v, q1, q2.mono le⟩
    | own d =>
      obtain ⟨p', q1, q2, q3, q4⟩ := q
      obtain ⟨ne, q4⟩ := fr p' q4
      exact ⟨p', q1, q2.grow le (Sub.refl H), by rw [sn p' ne]; exact q3, q4⟩
  · have q := r.dka
    cases dk with
    | none => exact q
    | some x =>
      obtain ⟨cells, at_, sum⟩ := x
      obtain ⟨a, c, q1, q2, q3, q4, q5, q6, q7, q8, q9⟩ := q
      obtain ⟨na, q6⟩ := fr a q6
      obtain ⟨nc, q7⟩ := fr c q7
      exact ⟨a, c, q1, q2, q3, by rw [sn a na]; exact q4, by rw [sn c nc]; exact q5, q6, q7, q8, q9⟩

theorem tev_comp {src : EL} {vs : List Nat} {g : Tg} {tt elt : E} {Q : VK} (h : TEv K (eComp src vs g tt elt) σ H Q) : tLc (TIv K src) (TGv K vs g) (TTv K tt) (TEv K elt) vs σ H Q := by
  obtain ⟨S, F, ρ, dk, d, ρ', dk', R, e, q⟩ := h
  unfold eComp at e
  cases ea : src ρ dk with
  | none => rw [ea] at e; cases e
  | some x =>
    obtain ⟨ds, ρ1, k1⟩ := x
    rw [ea] at e
    simp only [Option.bind_some] at e
    split at e
    case isFalse => cases e
    rename_i hlen
    cases ec : eCompGo vs g tt elt ds (wipeS ρ1 vs) k1 with
    | none => rw [ec] at e; cases e
    | some y =>
      obtain ⟨ys, ρf, kf⟩ := y
      rw [ec] at e
      simp only [Option.map_some] at e
      cases e
      refine ⟨S, F, ρ, dk, ds, ρ1, k1, R, ea, fun J H1 S1 l1 R1 it => fun A hA => ?_⟩
      have nF : F A = none := R1.fh.none hA
      have lσ : (wipe σ vs).length = σ.length := wipe_length σ vs
      have R1w : Rep K (wipe σ vs) H1 S1 F (wipeS ρ1 vs) k1 := R1.wiped lσ fun i hi => wipe_get hi
      refine ⟨fun i m H => m = ds.length - i ∧ ∃ S2 ρ2 k2 acc done rest, Le S1 S2 ∧ Rep K (wipe σ vs) H S2 (upd F A (.lst acc)) ρ2 k2 ∧ RpL K S2 acc done ∧ done ++ rest = ys ∧ acc.length ≤ i ∧
        eCompGo vs g tt elt (ds.drop i) ρ2 k2 = some (rest, ρ', dk'), ⟨ds.length, by omega, S1, _, k1, [], [], ys, Le.refl S1, R1w.frame hA, .nil, rfl, Nat.le_refl _, by rw [List.drop_zero]; exact ec⟩, ?_⟩
      rintro i m H2 ⟨hm, S2, ρ2, k2, acc, done, rest, l2, R2, ra, hdr0, hacc, e2⟩
      obtain ⟨it1, it2⟩ := it S2 H2 l2 R2.sh i
      cases hd : ds[i]? with
      | none =>
        have hdr : ds.drop i = [] := List.drop_eq_nil_iff.mpr (List.getElem?_eq_none_iff.mp hd)
        rw [hdr] at e2
        cases e2
        rw [List.append_nil] at hdr0
        subst hdr0
        refine .inl ⟨it2 hd, ?_⟩
        have spA : S2.hp A = none := R2.fs _ _ upd_same
        have leA : Le S2 (S2.add A (.lst acc)) := ⟨Sub.new spA, fun a e => e⟩
        have R3 : Rep K (wipe σ vs) H2 (S2.add A (.lst acc)) F ρ' dk' := R2.unframe nF
        refine q (.ref A) H2 _ ((l1.trans l2).trans leA) ?_ (.lst Sx.add_at (ra.mono leA))
        -- the slots as they were ahead
        have nov : ∀ v, v ∈ vs → ∀ s, ρ'[v]? = some s → s = .no := by
          have key : ∀ (l : List D) (ρa : List Sl) (ka : Dk) (r : List D) (ρb : List Sl) (kb : Dk), (∀ v, v ∈ vs → ∀ s, ρa[v]? = some s → s = .no) → eCompGo vs g tt elt l ρa ka = some (r, ρb, kb) → ∀ v, v ∈ vs → ∀ s, ρb[v]? = some s → s = .no := by
            intro l
            induction l with
            | nil => intro ρa ka r ρb kb h0 hh; cases hh; exact h0
            | cons d l ih =>
              intro ρa ka r ρb kb h0 hh
              have w0 : ∀ ρc : List Sl, ∀ v, v ∈ vs → ∀ s, (wipeS ρc vs)[v]? = some s → s = .no := fun ρc v hv s hs => by
                rcases wipeS_get hs with z | ⟨_, z⟩
                · exact z
                · exact absurd hv z
              unfold eCompGo at hh
              cases h1 : g d ρa with
              | none => rw [h1] at hh; cases hh
              | some ρ1 =>
                rw [h1] at hh
                simp only [Option.bind_some] at hh
                cases h2 : tt ρ1 ka with
                | none => rw [h2] at hh; cases hh
                | some b =>
                  rw [h2] at hh
                  simp only [Option.bind_some] at hh
                  split at hh
                  · cases h3 : elt b.2.1 b.2.2 with
                    | none => rw [h3] at hh; cases hh
                    | some y =>
                      rw [h3] at hh
                      simp only [Option.bind_some] at hh
                      cases h4 : eCompGo vs g tt elt l (wipeS y.2.1 vs) y.2.2 with
                      | none => rw [h4] at hh; cases hh
                      | some z =>
                        rw [h4] at hh
                        obtain ⟨z1, z2, z3⟩ := z
                        cases hh
                        exact ih _ _ _ _ _ (w0 _) h4
                  · exact ih _ _ _ _ _ (w0 _) hh
                  · cases hh
          refine key ds (wipeS ρ1 vs) k1 _ _ _ (fun v hv s hs => ?_) ec
          rcases wipeS_get hs with z | ⟨_, z⟩
          · exact z
          · exact absurd hv z
        have ini : ∀ i s, ρ'[i]? = some s → s ≠ .no → i ∉ vs := fun i s e n z => n (nov i z s e)
        refine ⟨R3.sh, R3.fh, R3.fs, by rw [← lσ]; exact R3.len, fun i s e => ?_, fun i j d e p h1 h2 h3 h4 => ?_, R3.dka.imp fun a ⟨i, d, h1, h2⟩ => ?_⟩
        · have z := R3.env i s e
          cases s with
          | no => trivial
          | val d => obtain ⟨v, z1, z2⟩ := z; exact ⟨v, by rw [← wipe_get (vs := vs) (ini i _ e (fun z => by cases z))]; exact z1, z2⟩
          | own d => obtain ⟨p, z1, z2⟩ := z; exact ⟨p, by rw [← wipe_get (vs := vs) (ini i _ e (fun z => by cases z))]; exact z1, z2⟩
        · refine R3.dist i j d e p h1 h2 ?_ ?_
          · rw [wipe_get (ini i _ h1 (fun z => by cases z))]; exact h3
          · rw [wipe_get (ini j _ h2 (fun z => by cases z))]; exact h4
        · exact ⟨i, d, h1, by rw [wipe_get (ini i _ h1 (fun z => by cases z))]; exact h2⟩
      | some d =>
        obtain ⟨go, yld⟩ := it1 d hd
        have hi : i < ds.length := by
          by_cases hl : i < ds.length
          · exact hl
          · rw [List.getElem?_eq_none (Nat.le_of_not_lt hl)] at hd; cases hd
        have hdr : ds.drop i = d :: ds.drop (i + 1) := by
          rw [List.drop_eq_getElem_cons hi]
          rw [List.getElem?_eq_getElem hi] at hd
          cases hd; rfl
        rw [hdr] at e2
        unfold eCompGo at e2
        cases eg : g d ρ2 with
        | none => rw [eg] at e2; cases e2
        | some ρ3 =>
          rw [eg] at e2
          simp only [Option.bind_some] at e2
          cases et : tt ρ3 k2 with
          | none => rw [et] at e2; cases e2
          | some b =>
            obtain ⟨bd, ρ4, k4⟩ := b
            rw [et] at e2
            simp only [Option.bind_some] at e2
            refine .inr ⟨go, fun H => ∃ S2 ρ2 k2 acc done rest, Le S1 S2 ∧ Rep K (wipe σ vs) H S2 (upd F A (.lst acc)) ρ2 k2 ∧ RpL K S2 acc done ∧ done ++ rest = ys ∧ acc.length ≤ i + 1 ∧
              eCompGo vs g tt elt (ds.drop (i + 1)) ρ2 k2 = some (rest, ρ', dk'), fun H' hN => ⟨ds.length - (i + 1), by omega, rfl, hN⟩, fun x H3 hy => ?_⟩
            obtain ⟨S3, gr, rx⟩ := yld x H3 hy
            refine ⟨S3, _, ρ2, k2, d, ρ3, R2.grow gr, rx, eg, fun σ4 H4 S4 l4 R4 len4 off4 => ?_⟩
            have l04 : Le S1 S4 := (l2.trans gr.le).trans l4
            have wl : (wipe σ vs).length = σ4.length := len4.symm
            have wo : ∀ i, i ∉ vs → (wipe σ vs)[i]? = σ4[i]? := fun i hi => (off4 i hi).symm
            refine ⟨?_, ?_⟩
            · refine List.ext_getElem? fun i => ?_
              by_cases hi : i ∈ vs
              · rw [wipe_in (len4.trans lσ) hi]
              · rw [wipe_get hi, off4 i hi, wipe_get hi]
            have more : Rep K (wipe σ vs) H4 S4 _ _ _ := R4.wiped wl wo
            cases bd with
            | bl c =>
              refine ⟨S4, _, ρ3, k2, c, ρ4, k4, R4, et, fun H5 S5 l5 R5 => ?_⟩
              cases c with
              | false => exact ⟨S5, _, k4, acc, done, rest, l04.trans l5, R5.wiped wl wo, ra.mono ((gr.le.trans l4).trans l5), hdr0, Nat.le_succ_of_le hacc, e2⟩
              | true =>
                simp only at e2
                cases ee : elt ρ4 k4 with
                | none => rw [ee] at e2; cases e2
                | some y =>
                  obtain ⟨yd, ρ6, k6⟩ := y
                  rw [ee] at e2
                  simp only [Option.bind_some] at e2
                  cases er : eCompGo vs g tt elt (ds.drop (i + 1)) (wipeS ρ6 vs) k6 with
                  | none => rw [er] at e2; cases e2
                  | some z =>
                    obtain ⟨zs, ρ7, k7⟩ := z
                    rw [er] at e2
                    simp only [Option.map_some] at e2
                    cases e2
                    refine ⟨S5, _, ρ4, k4, yd, ρ6, k6, R5, ee, fun v H6 S6 l6 R6 rv => ⟨acc, R6.fh _ _ upd_same, by omega, ?_⟩⟩
                    refine ⟨S6, _, k6, acc ++ [v], done ++ [yd], zs, (l04.trans l5).trans l6, R6.turnF.wiped wl wo, ?_, ?_, ?_, er⟩
                    · exact (ra.mono (((gr.le.trans l4).trans l5).trans l6)).app (.cons rv .nil)
                    · rw [List.append_assoc]; exact hdr0
                    · simp; exact hacc
            | _ => cases e2
end
end WS
namespace WS
open PySem PySem.Spec PyProof.Rows L2

/-! ## targets -/
/-- a, *b = a tuple -/
def gStar (g1 g2 : Tg) : Tg := fun d ρ => match d with
  | .tup (x :: r) => if r.length ≤ 10000 then (g1 x ρ).bind fun ρ1 => g2 (.lst r) ρ1 else none
  | _ => none
/-- a, b = a tuple of two -/
def gPair (g1 g2 : Tg) : Tg := fun d ρ => match d with
  | .tup [x, y] => (g1 x ρ).bind fun ρ1 => g2 y ρ1
  | _ => none

section
variable {prog : Program} {w : World} {A : Around} {E : Value → Shared → Prop} {s : Shared}
theorem star_tuple {t : Addr} {x : Value} {rest : List Value} {Q : List Value → Shared → Prop} (ht : IsTup s.heap t (x :: rest).toArray) (hh : A.handled = none) (hz : rest.length ≤ 10000)
    (h : ∀ a h' tk, (∀ b o, s.heap.get? b = some o → h'.get? b = some o) → s.heap.get? a = none → h'.get? a = some { cls := .type "list", data := .seq rest.toArray } → Q [x, .ref a] { s with heap := h', toks := tk }) :
    wpAny (model prog w) A (unpackItems (.ref t) 2 (some 1)) Q E s := by
  have tl : t < s.heap.objs.size := by
    obtain ⟨o, ho, _⟩ := ht
    exact Heap.lt_size ho
  have tn : t ≠ s.heap.objs.size := Nat.ne_of_lt tl
  unfold unpackItems
  refine wpAny_bind ?_
  unfold notIterableAtAll
  refine wpAny_bind (wpAny_specialOf ht.typeIs slot_tuple_iter.lookup (wpAny_pure ?_))
  simp only [Bool.false_eq_true, if_false]
  refine wpAny_bind (wpAny_holding (iter_tuple ht ?_))
  refine wpAny_bind (wpAny_holding (draw_tuple tn 1 0 _ _ ⟨_, Heap.get?_push_size _ rfl, rfl, rfl⟩ (ht.push _) (by simp) fun h1 it1 sb1 => ?_))
  have ht1 : IsTup h1 t (x :: rest).toArray := (ht.push _).extBut sb1.extBut tn
  obtain ⟨oi, hoi, _⟩ := id it1
  obtain ⟨ot, hot, _⟩ := id ht1
  have e1 : List.take 1 (List.drop 0 (x :: rest).toArray.toList) = [x] := by simp
  rw [e1]
  rw [if_neg (show ¬ ([x].length < 1) by simp)]
  refine wpAny_bind (wpAny_holding (PySem.W.kun_collect (s := { s with heap := h1 }) (T := "tuple_iterator") (.inr (.inr (.inr rfl))) (Walks.tuple (A := A.in1) hh s.heap.objs.size t tn (x :: rest).toArray)
    (fun j u st => st.1.typeIs) (k := 1) (by simp) ⟨it1, ht1⟩ (Heap.lt_size hoi) (Heap.lt_size hot) (fun h2 tk k2 => ?_) (by rw [sizeLine_eq]; simp; omega)))
  have e2 : List.drop 1 (x :: rest).toArray.toList = rest := by simp
  rw [e2]
  show wpAny _ _ (if rest.length < 2 - 1 - 1 then _ else _) _ _ _
  rw [if_neg (by omega)]
  show wpAny _ _ (newList (rest.take (rest.length - (2 - 1 - 1))) >>= fun d => pure ([x] ++ [d] ++ rest.drop (rest.length - (2 - 1 - 1)))) _ _ _
  rw [show rest.length - (2 - 1 - 1) = rest.length by omega, List.take_length, List.drop_length]
  have old : ∀ b o, s.heap.get? b = some o → h2.get? b = some o := fun b o e => k2 b o (Nat.ne_of_lt (Heap.lt_size e)) (sb1.extBut b o (Nat.ne_of_lt (Heap.lt_size e)) (Heap.get?_push_of_some _ e))
  have fresh : s.heap.get? h2.objs.size = none := by
    cases q : s.heap.get? h2.objs.size with
    | none => rfl
    | some o => exact absurd (Heap.lt_size (old _ _ q)) (Nat.lt_irrefl _)
  refine wpAny_bind (wpAny_newList (s := { s with heap := h2, toks := tk }) (wpAny_pure (h h2.objs.size _ _ (fun b o e => Heap.get?_push_of_some _ (old b o e)) fresh (Heap.get?_push_size _ rfl))) (by rw [sizeLine_eq]; omega))
end

theorem obj_at {P : Program} {w : World} {H : Hp} {h : Heap} {a : Addr} {o : HO} (x : ObjOk P w H h a o) : ∃ ob, h.get? a = some ob := by
  cases o with
  | lst xs => obtain ⟨_, _, _, _, e⟩ := x; exact ⟨_, e⟩
  | tup xs => obtain ⟨_, _, _, o, e, _⟩ := x; exact ⟨_, e⟩
  | dK kvs => obtain ⟨_, _, _, _, o, _, _, e, _⟩ := x; exact ⟨_, e⟩
  | dT kvs => obtain ⟨_, _, _, _, o, _, _, e, _⟩ := x; exact ⟨_, e⟩
  | set S n => obtain ⟨o, _, _, _, e, _⟩ := x; exact ⟨_, e⟩
  | ins C dx fs => obtain ⟨_, _, _, e, _⟩ := x; exact ⟨_, e⟩
  | own y => exact x
  | xd fs => obtain ⟨_, ⟨_, _, _, e, _⟩, _⟩ := x; exact ⟨_, e⟩
  | rng lo hi => obtain ⟨_, _, _, e⟩ := x; exact ⟨_, e⟩
  | frz ob u => obtain ⟨e, _⟩ := x; exact ⟨_, e⟩
  | tbl ps => exact ⟨_, x⟩
  | met f y => exact ⟨_, x⟩
  | ext φ => obtain ⟨_, ⟨_, e⟩, _⟩ := x; exact ⟨_, e⟩

section
variable {X : Cx} {K : PySem.W.Frag} {σ : L2.St} {H : Hp} {t1 t2 : Expr} {g1 g2 : Tg} {vs1 vs2 : List Nat} {pos pos' : Pos} {k : Nat}
/-- two targets by a list of two values -/
theorem two_goals {pins : List (Addr × Obj)} {s : Shared} {σ : L2.St} {H : Hp} {S : Sx} {F : Hp} {ρ ρ1 ρ2 : List Sl} {dk : Dk} {x y : V} {u v : Value} {d e : D} {Q : L2.St → Hp → Prop}
    (h1 : PG X t1 (TGv X.K vs1 g1)) (h2 : PG X t2 (TGv X.K vs2 g2)) (I : Inv X pins σ H s) (R : Rep X.K σ H S F ρ dk) (ru : RelV x u) (rv : RelV y v) (rx : Rp X.K S x d) (ry : Rp X.K S y e)
    (e1 : g1 d ρ = some ρ1) (e2 : g2 e ρ1 = some ρ2) (q : ∀ σ' H' S', Le S S' → Rep X.K σ' H' S' F ρ2 dk → σ'.length = σ.length → (∀ i, i ∉ vs1 ++ vs2 → σ'[i]? = σ[i]?) → Q σ' H') :
    wpAny (model X.prog X.w) X.A (assignInOrder [assign t1 X.env, assign t2 X.env] [u, v]) (fun _ s' => ∃ σ' H', Inv X pins σ' H' s' ∧ Q σ' H') X.xe s := by
  have w1 : TGv X.K vs1 g1 x σ H fun σ1 H1 => TGv X.K vs2 g2 y σ1 H1 Q := by
    refine ⟨S, F, ρ, dk, d, ρ1, R, rx, e1, fun σ1 H1 S1 l1 R1 n1 o1 => ?_⟩
    refine ⟨S1, F, ρ1, dk, e, ρ2, R1, ry.mono l1, e2, fun σ2 H2 S2 l2 R2 n2 o2 => q σ2 H2 S2 (l1.trans l2) R2 (n2.trans n1) fun i hi => ?_⟩
    rw [List.mem_append] at hi
    rw [o2 i fun z => hi (.inr z), o1 i fun z => hi (.inl z)]
  refine assignInOrder_cons (thn (h1.run pins s σ H x u _ I ru w1) ?_)
  intro _ s1 ⟨σ1, H1, I1, q1⟩
  exact assignInOrder_cons (thn (h2.run pins s1 σ1 H1 y v Q I1 rv q1) fun _ s2 q2 => assignInOrder_nil q2)
theorem t_star (hc : X.calm = true) (h1 : PG X t1 (TGv X.K vs1 g1)) (h2 : PG X t2 (TGv X.K vs2 g2)) (hf : (assignEach [t1, .Starred t2 pos'] X.env) = [(false, assign t1 X.env), (true, assign t2 X.env)] := by kernel_rfl!) :
    PG X (.Tuple [t1, .Starred t2 pos'] k pos) (TGv X.K (vs1 ++ vs2) (gStar g1 g2)) := by
  refine ⟨fun pins s σ H v u Q I r hw => ?_⟩
  obtain ⟨S, F, ρ, dk, d, ρ2, R, rv, e, q⟩ := hw
  unfold gStar at e
  split at e
  case h_2 => cases e
  rename_i x rest
  split at e
  case isFalse => cases e
  rename_i hz
  cases e1 : g1 x ρ with
  | none => rw [e1] at e; cases e
  | some ρ1 =>
    rw [e1] at e
    simp only [Option.bind_some] at e
    cases rv with
    | tup hs hr =>
      cases hr with
      | cons rx rr =>
        rename_i v1 vr
        cases r
        obtain ⟨its, rvs, ht, hz'⟩ := I.tuple (R.sh.sqT hs)
        cases rvs with
        | cons rv1 rvr =>
          rename_i u1 ur
          rw [assign_Tuple]
          refine wpAny_bind (wpAny_standAt ?_)
          unfold unpack
          rw [hf]
          have lr : vr.length = ur.length := Vals.length rvr
          have hlz : ur.length ≤ 10000 := by rw [← lr, rr.length]; exact hz
          refine wpAny_bind (wpAny_holding (star_tuple ht (I.ok.hd hc) hlz fun a h' tk keep fresh there => ?_))
          have hn : H a = none := by
            cases z : H a with
            | none => rfl
            | some o =>
              obtain ⟨ob, hob⟩ := obj_at (I.hok a o z)
              rw [fresh] at hob; cases hob
          have I2 : Inv X pins σ (upd H a (.lst vr)) { s with heap := h', toks := tk } := I.laidN keep fresh hn ⟨by rw [lr, sizeLine_eq]; omega, ur, _, rvr, there⟩
          have gr : Grow S H (S.add a (.lst vr)) (upd H a (.lst vr)) := Grow.add R.sh hn
          exact two_goals (y := .ref a) h1 h2 I2 (R.grow gr) rv1 rfl (rx.mono gr.le) (.lst Sx.add_at (rr.mono gr.le)) e1 e fun σ' H' S' l R' n o => q σ' H' S' (gr.le.trans l) R' n o
theorem t_pair (hc : X.calm = true) (h1 : PG X t1 (TGv X.K vs1 g1)) (h2 : PG X t2 (TGv X.K vs2 g2)) (hf : (assignEach [t1, t2] X.env) = [(false, assign t1 X.env), (false, assign t2 X.env)] := by kernel_rfl!) :
    PG X (.Tuple [t1, t2] k pos) (TGv X.K (vs1 ++ vs2) (gPair g1 g2)) := by
  refine ⟨fun pins s σ H v u Q I r hw => ?_⟩
  obtain ⟨S, F, ρ, dk, d, ρ2, R, rv, e, q⟩ := hw
  unfold gPair at e
  split at e
  case h_2 => cases e
  rename_i x y
  cases e1 : g1 x ρ with
  | none => rw [e1] at e; cases e
  | some ρ1 =>
    rw [e1] at e
    simp only [Option.bind_some] at e
    cases rv with
    | tup hs hr =>
      cases hr with
      | cons rx rr =>
        cases rr with
        | cons ry rn =>
          cases rn
          cases r
          obtain ⟨its, rvs, ht, hz'⟩ := I.tuple (R.sh.sqT hs)
          cases rvs with
          | cons rv1 rvr =>
            cases rvr with
            | cons rv2 rvn =>
              cases rvn
              refine assign_Tuple_tuple (I.ok.hd hc) ht (by rw [hf]; rfl) (by rw [hf]; rfl) fun h' hx => ?_
              have I1 : Inv X pins σ H { s with heap := h' } := I.kept (t' := s.toks) fun b o e => hx b o (Nat.ne_of_lt (Heap.lt_size e)) e
              rw [hf]
              exact two_goals h1 h2 I1 R rv1 rv2 rx ry e1 e fun σ' H' S' l R' n o => q σ' H' S' l R' n o
theorem t_name {i : Nat} {x : Str} (hN : X.N.Nodup) (hi : X.N[i]? = some x) (hx : Loc X.env.scope x) (hf : X.fn x = true ∨ X.env.scope.names.lookup x = some .local := by first | exact .inl (by kernel_rfl!) | exact .inr (by kernel_rfl!) | assumption) : PG X (.Name x pos) (TGv X.K [i] (gSet i)) :=
  (pg_name hN hi hx hf).imp fun _ _ _ _ h => tgv_set h
end
end WS
namespace WS
open PySem PySem.Spec PyProof.Rows L2

/-! ## what a def computes -/
abbrev Fn := List D → Dk → Option (D × Dk)
def spS (K : PySem.W.Frag) (n : Nat) (f : Fn) : Sp := fun vs H Q _ => vs.length = n ∧ ∃ S F ds dk d dk', Rep K [] H S F [] dk ∧ RpL K S vs ds ∧ f ds dk = some (d, dk') ∧
  ∀ v H' S', Le S S' → Rep K [] H' S' F [] dk' → Rp K S' v d → Q v H'
def runS (n : Nat) (body : SS) : Fn := fun ds k => (body (ds.map Sl.val ++ List.replicate (n - ds.length) Sl.no) k).bind fun x => match x.1 with
  | .rt d => some (d, x.2.2)
  | .nx => some (.non, x.2.2)
  | _ => none
def eCallF (n : Nat) (f : Fn) (a : EL) : E := fun ρ k => (a ρ k).bind fun x => if x.1.length = n then (f x.1 x.2.2).map fun y => (y.1, x.2.1, y.2) else none

section
variable {K : PySem.W.Frag} {σ : L2.St} {H : Hp} {S : Sx} {F : Hp} {ρ : List Sl} {dk : Dk}
theorem Rep.drop (r : Rep K σ H S F ρ dk) : Rep K [] H S F [] dk :=
  ⟨r.sh, r.fh, r.fs, rfl, fun i s e => by simp at e, fun i j d e p h => by simp at h, r.dka.imp fun a ⟨i, d, h, _⟩ => by simp at h⟩
theorem Rep.enter {N : List Str} {vs : List V} {ds : List D} (r : Rep K [] H S F [] dk) (h : RpL K S vs ds) (hn : vs.length ≤ N.length) : Rep K (L2.start N vs) H S F (ds.map Sl.val ++ List.replicate (N.length - ds.length) Sl.no) dk := by
  have hl := h.length
  have key : ∀ (i : Nat) (s : Sl), (ds.map Sl.val ++ List.replicate (N.length - ds.length) Sl.no)[i]? = some s → s = .no ∨ ∃ d, s = .val d ∧ ds[i]? = some d := fun i s e => by
    rw [List.getElem?_append] at e
    split at e
    · rw [List.getElem?_map] at e
      cases q : ds[i]? with
      | none => rw [q] at e; cases e
      | some d => rw [q] at e; cases e; exact .inr ⟨d, rfl, rfl⟩
    · rw [List.getElem?_replicate] at e
      split at e
      · cases e; exact .inl rfl
      · cases e
  have noOwn : ∀ (i : Nat) (d : D), (ds.map Sl.val ++ List.replicate (N.length - ds.length) Sl.no)[i]? = some (Sl.own d) → False := fun i d e => by
    rcases key i _ e with z | ⟨_, z, _⟩ <;> cases z
  refine ⟨r.sh, r.fh, r.fs, by unfold L2.start; simp [hl], fun i s e => ?_, fun i j d e p h1 => (noOwn i d h1).elim, r.dka.imp fun a ⟨i, d, h, _⟩ => (noOwn i d h).elim⟩
  rcases key i s e with z | ⟨d, z, hd⟩
  · subst z; trivial
  · subst z
    obtain ⟨v, hv, rv⟩ := h.get hd
    refine ⟨v, ?_, rv⟩
    have hi : i < vs.length := by
      by_cases hi : i < vs.length
      · exact hi
      · rw [List.getElem?_eq_none (Nat.le_of_not_lt hi)] at hv; cases hv
    unfold L2.start
    rw [List.getElem?_append_left (by simpa using hi), List.getElem?_map, hv]
    rfl

open Classical in
/-- the frame with the own things of the slots -/
noncomputable def ownF (σ : L2.St) (H F : Hp) (ρ : List Sl) : Hp := fun a => if Owns σ ρ a then H a else F a
theorem Rep.leave (r : Rep K σ H S F ρ dk) : Rep K [] H S (ownF σ H F ρ) [] dk := by
  have at_ : ∀ p, Owns σ ρ p → S.hp p = none := fun p ⟨i, d, h1, h2⟩ => by
    obtain ⟨p', q1, q2, q3, q4⟩ := r.env i _ h1
    rw [h2] at q1; cases q1
    exact q3
  refine ⟨r.sh, fun a o e => ?_, fun a o e => ?_, rfl, fun i s e => by simp at e, fun i j d e p h => by simp at h, ?_⟩
  · unfold ownF at e
    split at e
    · exact e
    · exact r.fh _ _ e
  · unfold ownF at e
    split at e
    · rename_i h; exact at_ a h
    · exact r.fs _ _ e
  · have q := r.dka
    cases dk with
    | none => exact q
    | some x =>
      obtain ⟨cells, at_, sum⟩ := x
      obtain ⟨a, c, q1, q2, q3, q4, q5, q6, q7, q8, q9⟩ := q
      have no : ∀ b, ¬ Owns [] [] b := fun b ⟨i, d, h, _⟩ => by simp at h
      exact ⟨a, c, q1, q2, q3, q4, q5, by unfold ownF; rw [if_neg q8]; exact q6, by unfold ownF; rw [if_neg q9]; exact q7, no a, no c⟩
theorem Rep.back {H' : Hp} {S' : Sx} {dk' : Dk} (r : Rep K σ H S F ρ dk) (l : Le S S') (r' : Rep K [] H' S' (ownF σ H F ρ) [] dk') : Rep K σ H' S' F ρ dk' := by
  have own : ∀ p, Owns σ ρ p → ownF σ H F ρ p = H p := fun p h => if_pos h
  have off : ∀ p, ¬ Owns σ ρ p → ownF σ H F ρ p = F p := fun p h => if_neg h
  have nof : ∀ p, Owns σ ρ p → F p = none := fun p ⟨i, d, h1, h2⟩ => by
    obtain ⟨p', q1, q2, q3, q4⟩ := r.env i _ h1
    rw [h2] at q1; cases q1
    exact q4
  have Fof : ∀ a o, F a = some o → ownF σ H F ρ a = some o := fun a o e => by
    rw [off a fun h => by rw [nof a h] at e; cases e]; exact e
  refine ⟨r'.sh, fun a o e => r'.fh a o (Fof a o e), fun a o e => r'.fs a o (Fof a o e), r.len, fun i s e => ?_, r.dist, ?_⟩
  · have q := r.env i s e
    cases s with
    | no => trivial
    | val d => obtain ⟨v, q1, q2⟩ := q; exact ⟨v, q1, q2.mono l⟩
    | own d =>
      obtain ⟨p, q1, q2, q3, q4⟩ := q
      have ow : Owns σ ρ p := ⟨i, d, e, q1⟩
      have same : ∀ o, H p = some o → H' p = some o := fun o ho => r'.fh p o (by rw [own p ow]; exact ho)
      refine ⟨p, q1, ?_, ?_, q4⟩
      · cases d with
        | lst ds => obtain ⟨xs, e1, e2⟩ := q2; exact ⟨xs, same _ e1, e2.mono l⟩
        | dct ks ds => obtain ⟨xs, e1, e2, e3⟩ := q2; exact ⟨xs, same _ e1, e2, e3.mono l⟩
        | ins nm ns ds => obtain ⟨C, dx, fs, e1, e2, e3, e4, e5⟩ := q2; exact ⟨C, dx, fs, same _ e1, e2, e3, e4, e5.mono l⟩
        | _ => exact q2.elim
      · obtain ⟨o, ho⟩ := q2.at
        exact r'.fs p o (by rw [own p ow]; exact ho)
  · have q := r'.dka
    cases dk' with
    | none => exact q
    | some x =>
      obtain ⟨cells, at_, sum⟩ := x
      obtain ⟨a, c, q1, q2, q3, q4, q5, q6, q7, q8, q9⟩ := q
      have no : ∀ b, ownF σ H F ρ b = none → ¬ Owns σ ρ b := fun b e h => by
        obtain ⟨i, d, h1, h2⟩ := h
        obtain ⟨p', z1, z2, z3, z4⟩ := r.env i _ h1
        rw [h2] at z1; cases z1
        obtain ⟨o, ho⟩ := z2.at
        rw [own b ⟨i, d, h1, h2⟩, ho] at e; cases e
      exact ⟨a, c, q1, q2, q3, q4, q5, by rw [← off a (no a q6)]; exact q6, by rw [← off c (no c q7)]; exact q7, no a q6, no c q7⟩

theorem tev_callF {n : Nat} {f : Fn} {fs : EL} {Ex : XK} {Q : VK} (h : TEv K (eCallF n f fs) σ H Q) : tCall (spS K n f) [] Ex (TAv K fs) σ H Q := by
  obtain ⟨S, F, ρ, dk, d, ρ', dk', R, e, q⟩ := h
  unfold eCallF at e
  cases ea : fs ρ dk with
  | none => rw [ea] at e; cases e
  | some x =>
    obtain ⟨ds, ρ1, k1⟩ := x
    rw [ea] at e
    simp only [Option.bind_some] at e
    split at e
    case isFalse => cases e
    rename_i hn
    cases ef : f ds k1 with
    | none => rw [ef] at e; cases e
    | some y =>
      obtain ⟨d', k2⟩ := y
      rw [ef] at e
      simp only [Option.map_some] at e
      cases e
      refine ⟨S, F, ρ, dk, ds, ρ', k1, R, ea, fun vs H1 S1 l1 R1 rv => ?_⟩
      show spS K n f (vs ++ []) H1 Q Ex
      rw [List.append_nil]
      exact ⟨by rw [rv.length]; exact hn, S1, _, ds, k1, d, dk', R1.leave, rv, ef, fun v H2 S2 l2 R2 rv2 => q v H2 S2 (l1.trans l2) (R1.back l2 R2) rv2⟩
end

section
variable {P : Program} {w : World} {K : PySem.W.Frag} {mg : Str → Option Value} {base : Heap} {k : Nat} {f : Addr} {fd : FuncData} {ps : List Str}
/-- a def computes what its body's term says -/
theorem fnS {x qual : Str} {st : Stmt} {N : List Str} {body : SS} (n : Nat) (hps : ps.length = n) (hN : n ≤ N.length) (Fu : Fun K x qual st f fd) (SC : FnScope N ps (defScope st))
    (hb : ∀ (cdv : Value) (A : Around) (outer : List Env) (s : Shared) (H : Hp) (E : XK), A.guards = some [] → Room k (A.deeper (envOfC qual (defScope st) s.heap.objs.size f cdv)) →
      PSs (cxOf CX0 P w K mg base N qual (defScope st) f cdv A outer s H E).nox (defBody st) (TSv K W0 body)) : FnG P w K mg base CX0 (k + 1) f fd ps (spS K n (runS N.length body)) := by
  refine fnG0 Fu SC (fun vs H Q E h => h.1.trans hps.symm) fun cdv A outer s H vs Q E hg hr h => ?_
  obtain ⟨hl, S, F, ds, dk, d, dk', R, rv, e, q⟩ := h
  refine ⟨_, hb cdv A outer s H E hg hr, ?_⟩
  unfold runS at e
  cases eb : body (ds.map Sl.val ++ List.replicate (N.length - ds.length) Sl.no) dk with
  | none => rw [eb] at e; cases e
  | some y =>
    obtain ⟨o, ρ', k'⟩ := y
    rw [eb] at e
    simp only [Option.bind_some] at e
    refine ⟨S, F, _, dk, o, ρ', k', R.enter rv (by omega), eb, ?_⟩
    cases o with
    | nx => cases e; exact fun σ' H' S' l R' => q _ H' S' l R'.drop .non
    | rt d' => cases e; exact fun v σ' H' S' l R' rv' => q v H' S' l R'.drop rv'
    | bk => cases e
    | ct => cases e
    | ex C ns ds => cases e
end
end WS
namespace WS
open PySem PySem.Spec PyProof.Rows L2
variable {W : WX}

/-! ## sources of a walk -/
def iSeq (e : E) : EL := fun ρ k => (e ρ k).bind fun x => match x.1 with
  | .lst ds => some (ds, x.2.1, x.2.2)
  | .rdl ds => some (ds, x.2.1, x.2.2)
  | .tup ds => some (ds, x.2.1, x.2.2)
  | _ => none
def rangeD (lo : Int) (n : Nat) (c : Int) : List D := (List.range n).map fun i : Nat => .int (lo + (i : Int) * c)
def gRange1 : List D → Option (List D)
  | [.int j] => if -(2 ^ 62) ≤ j ∧ j < 2 ^ 62 then some (rangeD 0 j.toNat 1) else none
  | _ => none
def gRange2 : List D → Option (List D)
  | [.int i, .int j] => if -(2 ^ 62) ≤ i ∧ i < 2 ^ 62 ∧ -(2 ^ 62) ≤ j ∧ j < 2 ^ 62 then some (rangeD i (j - i).toNat 1) else none
  | _ => none
def gRange3 : List D → Option (List D)
  | [.int i, .int j, .int c] => if c ≠ 0 ∧ c.natAbs < 1073741824 ∧ Builtin.Range.small i j c = true ∧ 0 ≤ Builtin.Range.rangeSize i j c then some (rangeD i (Builtin.Range.rangeSize i j c).toNat c) else none
  | _ => none
def gZip : List D → Option (List D)
  | [.lst xs, .lst ys] => some (List.zipWith (fun x y => .tup [x, y]) xs ys)
  | [.tup xs, .tup ys] => some (List.zipWith (fun x y => .tup [x, y]) xs ys)
  | _ => none
def gEnum : List D → Option (List D)
  | [.lst xs] => some ((xs.zipIdx).map fun x => .tup [.int (x.2 : Int), x.1])
  | _ => none
def iApp (g : List D → Option (List D)) (a : EL) : EL := fun ρ k => (a ρ k).bind fun x => (g x.1).map fun z => (z, x.2.1, x.2.2)

section
variable {K : PySem.W.Frag} {S : Sx}
theorem itd_list' {a : Addr} {xs : List V} {ds : List D} (h : SqL K S.hp a xs) (r : RpL K S xs ds) : ItD K S (Itl K a) ds := by
  intro S1 H1 l sh i
  have h1 : SqL K H1 a xs := sh.sqL (l.s.sqL h)
  refine ⟨fun d hd => ?_, fun hd => ?_⟩
  · obtain ⟨v, hv, rv⟩ := r.get hd
    refine ⟨⟨xs, v, h1, hv⟩, fun x H2 y => ?_⟩
    obtain ⟨e, q⟩ := y
    subst e
    have z := q xs h1
    rw [hv] at z
    cases z
    exact ⟨S1, Grow.refl sh, rv.mono l⟩
  · exact ⟨xs, h1, by rw [r.length]; exact List.getElem?_eq_none_iff.mp hd⟩
theorem itd_tup {a : Addr} {xs : List V} {ds : List D} (h : SqT K S.hp a xs) (r : RpL K S xs ds) : ItD K S (Itt K a) ds := by
  intro S1 H1 l sh i
  have h1 : SqT K H1 a xs := sh.sqT (l.s.sqT h)
  refine ⟨fun d hd => ?_, fun hd => ?_⟩
  · obtain ⟨v, hv, rv⟩ := r.get hd
    refine ⟨⟨xs, v, h1, hv⟩, fun x H2 y => ?_⟩
    obtain ⟨e, q⟩ := y
    subst e
    have z := q xs h1
    rw [hv] at z
    cases z
    exact ⟨S1, Grow.refl sh, rv.mono l⟩
  · exact ⟨xs, h1, by rw [r.length]; exact List.getElem?_eq_none_iff.mp hd⟩
theorem rangeD_get {lo : Int} {n : Nat} {c : Int} {i : Nat} {d : D} (h : (rangeD lo n c)[i]? = some d) : i < n ∧ d = .int (lo + (i : Int) * c) := by
  unfold rangeD at h
  rw [List.getElem?_map] at h
  by_cases hi : i < n
  · rw [List.getElem?_range hi] at h
    cases h
    exact ⟨hi, rfl⟩
  · rw [List.getElem?_eq_none (by simpa using Nat.le_of_not_lt hi)] at h; cases h
theorem rangeD_none {lo : Int} {n : Nat} {c : Int} {i : Nat} (h : (rangeD lo n c)[i]? = none) : n ≤ i := by
  have := List.getElem?_eq_none_iff.mp h
  simpa [rangeD] using this
theorem itd_range {lo : Int} {n : Nat} : ItD K S (Itr lo n) (rangeD lo n 1) := by
  intro S1 H1 l sh i
  refine ⟨fun d hd => ?_, fun hd => rangeD_none hd⟩
  obtain ⟨hi, e⟩ := rangeD_get hd
  refine ⟨hi, fun x H2 y => ?_⟩
  obtain ⟨e1, e2⟩ := y
  subst e1 e2 e
  rw [Int.mul_one]
  exact ⟨S1, Grow.refl sh, .int _⟩
theorem itd_rangeC {lo c : Int} {n : Nat} : ItD K S (Itc lo c n) (rangeD lo n c) := by
  intro S1 H1 l sh i
  refine ⟨fun d hd => ?_, fun hd => rangeD_none hd⟩
  obtain ⟨hi, e⟩ := rangeD_get hd
  refine ⟨hi, fun x H2 y => ?_⟩
  obtain ⟨e1, e2⟩ := y
  subst e1 e2 e
  exact ⟨S1, Grow.refl sh, .int _⟩
theorem zip_get {f : D → D → D} {xs ys : List D} {i : Nat} {d : D} (h : (List.zipWith f xs ys)[i]? = some d) : ∃ x y, xs[i]? = some x ∧ ys[i]? = some y ∧ d = f x y := by
  rw [List.getElem?_zipWith] at h
  cases hx : xs[i]? with
  | none => rw [hx] at h; cases h
  | some x =>
    cases hy : ys[i]? with
    | none => rw [hx, hy] at h; cases h
    | some y => rw [hx, hy] at h; cases h; exact ⟨x, y, rfl, rfl, rfl⟩
theorem zip_none {f : D → D → D} {xs ys : List D} {i : Nat} (h : (List.zipWith f xs ys)[i]? = none) : xs.length ≤ i ∨ ys.length ≤ i := by
  have := List.getElem?_eq_none_iff.mp h
  rw [List.length_zipWith] at this
  omega
theorem itd_zipL {a b : Addr} {xs ys : List V} {ds es : List D} (h : SqL K S.hp a xs) (h' : SqL K S.hp b ys) (r : RpL K S xs ds) (r' : RpL K S ys es) : ItD K S (Itz K a b) (List.zipWith (fun x y => .tup [x, y]) ds es) := by
  intro S1 H1 l sh i
  have h1 : SqL K H1 a xs := sh.sqL (l.s.sqL h)
  have h2 : SqL K H1 b ys := sh.sqL (l.s.sqL h')
  refine ⟨fun d hd => ?_, fun hd => ?_⟩
  · obtain ⟨x, y, hx, hy, e⟩ := zip_get hd
    obtain ⟨v, hv, rv⟩ := r.get hx
    obtain ⟨u, hu, ru⟩ := r'.get hy
    subst e
    refine ⟨⟨xs, ys, v, u, h1, h2, hv, hu⟩, fun z H2 q => ?_⟩
    obtain ⟨T, v', u', e1, n, e2, q1, q2⟩ := q
    have z1 := q1 xs h1
    have z2 := q2 ys h2
    rw [hv] at z1; cases z1
    rw [hu] at z2; cases z2
    subst e1 e2
    have g := Grow.add (o := .tup [v, u]) sh n
    exact ⟨_, g, .tup (.inl (.inl Sx.add_at)) (.cons ((rv.mono l).mono g.le) (.cons ((ru.mono l).mono g.le) .nil))⟩
  · exact ⟨xs, ys, h1, h2, by rw [r.length, r'.length]; exact zip_none hd⟩
theorem itd_zipT {a b : Addr} {xs ys : List V} {ds es : List D} (h : SqT K S.hp a xs) (h' : SqT K S.hp b ys) (r : RpL K S xs ds) (r' : RpL K S ys es) : ItD K S (RZ.ItzT K a b) (List.zipWith (fun x y => .tup [x, y]) ds es) := by
  intro S1 H1 l sh i
  have h1 : SqT K H1 a xs := sh.sqT (l.s.sqT h)
  have h2 : SqT K H1 b ys := sh.sqT (l.s.sqT h')
  refine ⟨fun d hd => ?_, fun hd => ?_⟩
  · obtain ⟨x, y, hx, hy, e⟩ := zip_get hd
    obtain ⟨v, hv, rv⟩ := r.get hx
    obtain ⟨u, hu, ru⟩ := r'.get hy
    subst e
    refine ⟨⟨xs, ys, v, u, h1, h2, hv, hu⟩, fun z H2 q => ?_⟩
    obtain ⟨T, v', u', e1, n, e2, q1, q2⟩ := q
    have z1 := q1 xs h1
    have z2 := q2 ys h2
    rw [hv] at z1; cases z1
    rw [hu] at z2; cases z2
    subst e1 e2
    have g := Grow.add (o := .tup [v, u]) sh n
    exact ⟨_, g, .tup (.inl (.inl Sx.add_at)) (.cons ((rv.mono l).mono g.le) (.cons ((ru.mono l).mono g.le) .nil))⟩
  · exact ⟨xs, ys, h1, h2, by rw [r.length, r'.length]; exact zip_none hd⟩
theorem itd_enum {a : Addr} {xs : List V} {ds : List D} (h : SqL K S.hp a xs) (r : RpL K S xs ds) : ItD K S (Ite K a) ((ds.zipIdx).map fun x => .tup [.int (x.2 : Int), x.1]) := by
  intro S1 H1 l sh i
  have h1 : SqL K H1 a xs := sh.sqL (l.s.sqL h)
  refine ⟨fun d hd => ?_, fun hd => ?_⟩
  · rw [List.getElem?_map, List.getElem?_zipIdx] at hd
    cases hx : ds[i]? with
    | none => rw [hx] at hd; cases hd
    | some x =>
      rw [hx] at hd
      simp only [Option.map_some, Nat.zero_add, Option.some.injEq] at hd
      subst hd
      obtain ⟨v, hv, rv⟩ := r.get hx
      refine ⟨⟨xs, v, h1, hv⟩, fun z H2 q => ?_⟩
      obtain ⟨T, v', e1, n, e2, q1⟩ := q
      have z1 := q1 xs h1
      rw [hv] at z1; cases z1
      subst e1 e2
      have g := Grow.add (o := .tup [V.int (i : Nat), v]) sh n
      exact ⟨_, g, .tup (.inl (.inl Sx.add_at)) (.cons (.int _) (.cons ((rv.mono l).mono g.le) .nil))⟩
  · have := List.getElem?_eq_none_iff.mp hd
    exact ⟨xs, h1, by rw [r.length]; simpa using this⟩
end

section
variable {X : Cx} {tg e e2 : Expr} {f : E} {fs : EL} {p pos tpos : Pos} {elts : List Expr} {kk : Nat}
def rSeqI (K : PySem.W.Frag) (tl : TE) : TI := fun σ H R => tl σ H fun x H1 => ∃ a, x = .ref a ∧ (((∃ xs, SqL K H1 a xs) ∧ R (Itl K a) H1) ∨ ((∃ xs, SqT K H1 a xs) ∧ R (Itt K a) H1))
theorem i_seq0 {tl : TE} (h : PE X e tl) : PI X tg e (rSeqI X.K tl) := by
  refine ⟨fun pins s σ H R I hw => ?_⟩
  refine thn (h.run pins s σ H _ I hw) ?_
  intro v s1 ⟨x, H1, I1, r1, a, ex, q1⟩
  subst ex
  cases r1
  have fp : ∀ b ∈ [s1.heap.objs.size], FpOk X pins H1 b := fun b hb => by
    rw [List.mem_singleton.mp hb]
    exact I1.fpOk (Nat.le_refl _) (I1.hok.fresh (Nat.le_refl _))
  rcases q1 with ⟨⟨xs, hq⟩, q⟩ | ⟨⟨xs, hq⟩, q⟩
  · obtain ⟨its, rv, pl, hz⟩ := I1.list hq
    exact wpAny_pyIter_list pl.isList ⟨s1.heap.objs.size, [s1.heap.objs.size], _, _, H1, rfl, I1.kept (t' := s1.toks) fun b o e => Heap.get?_push_of_some _ e, turn_list a _, ⟨_, Heap.get?_push_size _ rfl, rfl, rfl⟩, fp, q⟩
  · obtain ⟨its, rv, pl, hz⟩ := I1.tuple hq
    exact wpAny_pyIter_tuple (show s1.heap.IsTuple a its.toArray from pl) ⟨s1.heap.objs.size, [s1.heap.objs.size], _, _, H1, rfl, I1.kept (t' := s1.toks) fun b o e => Heap.get?_push_of_some _ e, turn_tuple a _, ⟨_, Heap.get?_push_size _ rfl, rfl, rfl⟩, fp, q⟩
theorem i_seq (h : PE X e (TEv X.K f)) : PI X tg e (TIv X.K (iSeq f)) := (i_seq0 h).imp fun σ H R hw => by
  obtain ⟨S, F, ρ, dk, ds, ρ', dk', Rr, e, q⟩ := hw
  unfold iSeq at e
  cases ea : f ρ dk with
  | none => rw [ea] at e; cases e
  | some x =>
    obtain ⟨d, ρ1, k1⟩ := x
    rw [ea] at e
    simp only [Option.bind_some] at e
    refine ⟨S, F, ρ, dk, d, ρ1, k1, Rr, ea, fun v H1 S1 l1 R1 rv => ?_⟩
    cases d with
    | lst xs =>
      cases e
      cases rv with
      | lst hs hr => exact ⟨_, rfl, .inl ⟨⟨_, R1.sh.sqL (.inl (.inl hs))⟩, q _ H1 S1 l1 R1 (itd_list' (.inl (.inl hs)) hr)⟩⟩
    | rdl xs =>
      cases e
      cases rv with
      | rdl hs hr => exact ⟨_, rfl, .inl ⟨⟨_, R1.sh.sqL hs⟩, q _ H1 S1 l1 R1 (itd_list' hs hr)⟩⟩
    | tup xs =>
      cases e
      cases rv with
      | tup hs hr => exact ⟨_, rfl, .inr ⟨⟨_, R1.sh.sqT hs⟩, q _ H1 S1 l1 R1 (itd_tup hs hr)⟩⟩
    | _ => cases e
/-- what is asked of an argument list -/
theorem tiv_app {t : TA → TI} {g : List D → Option (List D)} {σ : L2.St} {H : Hp} {R : It → Hp → Prop} {r : List V → Hp → (It → Hp → Prop) → Prop}
    (ht : ∀ t' σ H R, t' σ H (fun xs H1 => r xs H1 R) → t t' σ H R)
    (hr : ∀ (S : Sx) (H : Hp) (vs : List V) (ds zs : List D) (R : It → Hp → Prop), Sub S.hp H → RpL X.K S vs ds → g ds = some zs → (∀ J, ItD X.K S J zs → R J H) → r vs H R) (h : TIv X.K (iApp g fs) σ H R) : t (TAv X.K fs) σ H R := by
  obtain ⟨S, F, ρ, dk, ds, ρ', dk', Rr, e, q⟩ := h
  unfold iApp at e
  cases ea : fs ρ dk with
  | none => rw [ea] at e; cases e
  | some x =>
    obtain ⟨d, ρ1, k1⟩ := x
    rw [ea] at e
    simp only [Option.bind_some] at e
    cases eg : g d with
    | none => rw [eg] at e; cases e
    | some z =>
      rw [eg] at e
      simp only [Option.map_some] at e
      cases e
      refine ht _ σ H R ⟨S, F, ρ, dk, d, _, _, Rr, ea, fun v H1 S1 l1 R1 rv => ?_⟩
      exact hr S1 H1 v d _ R R1.sh rv eg fun J it => q J H1 S1 l1 R1 it
theorem i_range1 (hg : Gl X "range") (hm : X.mg "range" = none) (ha : PA X [e] (TAv X.K fs)) (hs : starEach [e] X.env = [(false, eval e X.env)] := by kernel_rfl!) : PI X tg (.Call (.Name "range" p) [e] [] pos) (TIv X.K (iApp gRange1 fs)) :=
  (pi_range1 hg hm ha hs).imp fun σ H R h => tiv_app (t := iRng1) (r := fun vs H1 R => ∃ j : Int, vs = [.int j] ∧ -(2 ^ 62) ≤ j ∧ j < 2 ^ 62 ∧ R (Itr 0 j.toNat) H1) (fun _ _ _ _ h => h) (fun S H vs ds zs R sh r e q => by
    unfold gRange1 at e
    split at e
    case h_2 => cases e
    split at e
    case isFalse => cases e
    rename_i hc
    cases e
    cases r with
    | cons r1 r2 =>
      cases r1
      cases r2
      exact ⟨_, rfl, hc.1, hc.2, q _ itd_range⟩) h
theorem i_range2 (hg : Gl X "range") (hm : X.mg "range" = none) (ha : PA X [e, e2] (TAv X.K fs)) (hs : starEach [e, e2] X.env = [(false, eval e X.env), (false, eval e2 X.env)] := by kernel_rfl!) (hs2 : starEach [e2] X.env = [(false, eval e2 X.env)] := by kernel_rfl!) : PI X tg (.Call (.Name "range" p) [e, e2] [] pos) (TIv X.K (iApp gRange2 fs)) :=
  (pi_range2 hg hm ha hs hs2).imp fun σ H R h => tiv_app (t := iRng2) (r := fun vs H1 R => ∃ i j : Int, vs = [.int i, .int j] ∧ (-(2 ^ 62) ≤ i ∧ i < 2 ^ 62 ∧ -(2 ^ 62) ≤ j ∧ j < 2 ^ 62) ∧ R (Itr i (j - i).toNat) H1) (fun _ _ _ _ h => h) (fun S H vs ds zs R sh r e q => by
    unfold gRange2 at e
    split at e
    case h_2 => cases e
    split at e
    case isFalse => cases e
    rename_i hc
    cases e
    cases r with
    | cons r1 r2 =>
      cases r1
      cases r2 with
      | cons r2 r3 =>
        cases r2
        cases r3
        exact ⟨_, _, rfl, hc, q _ itd_range⟩) h
theorem i_range3 {e3 : Expr} (hg : Gl X "range") (hm : X.mg "range" = none) (ha : PA X [e, e2, e3] (TAv X.K fs)) (hs : starEach [e, e2, e3] X.env = (false, eval e X.env) :: starEach [e2, e3] X.env := by kernel_rfl!) (hpl : (backTo pos (starEach [e2, e3] X.env)).any (·.1) = false := by kernel_rfl!) : PI X tg (.Call (.Name "range" p) [e, e2, e3] [] pos) (TIv X.K (iApp gRange3 fs)) :=
  (pi_range3 hg hm ha hs hpl).imp fun σ H R h => tiv_app (t := iRng3) (r := fun vs H1 R => ∃ (i j c : Int) (n : Nat), vs = [.int i, .int j, .int c] ∧ RgC i j c n ∧ R (Itc i c n) H1) (fun _ _ _ _ h => h) (fun S H vs ds zs R sh r e q => by
    unfold gRange3 at e
    split at e
    case h_2 => cases e
    split at e
    case isFalse => cases e
    rename_i hc
    cases e
    cases r with
    | cons r1 r2 =>
      cases r1
      cases r2 with
      | cons r2 r3 =>
        cases r2
        cases r3 with
        | cons r3 r4 =>
          cases r3
          cases r4
          exact ⟨_, _, _, _, rfl, ⟨hc.1, hc.2.1, hc.2.2.1, (Int.toNat_of_nonneg hc.2.2.2).symm⟩, q _ itd_rangeC⟩) h
theorem i_zip (hg : Gl X "zip") (hm : X.mg "zip" = none) (ha : PA X [e, e2] (TAv X.K fs)) (hs : starEach [e, e2] X.env = (false, eval e X.env) :: starEach [e2] X.env := by kernel_rfl!) (hpl : (backTo pos (starEach [e2] X.env)).any (·.1) = false := by kernel_rfl!) :
    PI X (.Tuple elts kk tpos) (.Call (.Name "zip" p) [e, e2] [] pos) (TIv X.K (iApp gZip fs)) :=
  (RZ.pi_zipA hg hm ha hs hpl).imp fun σ H R h => tiv_app (t := RZ.iZipA X.K) (r := fun vs H1 R => ∃ a b xs ys, vs = [.ref a, .ref b] ∧ ((SqL X.K H1 a xs ∧ SqL X.K H1 b ys ∧ R (Itz X.K a b) H1) ∨ (SqT X.K H1 a xs ∧ SqT X.K H1 b ys ∧ R (RZ.ItzT X.K a b) H1))) (fun _ _ _ _ h => h) (fun S H vs ds zs R sh r e q => by
    unfold gZip at e
    split at e
    case h_3 => cases e
    · cases e
      cases r with
      | cons r1 r2 =>
        cases r2 with
        | cons r2 r3 =>
          cases r3
          cases r1 with
          | lst h1 q1 =>
            cases r2 with
            | lst h2 q2 => exact ⟨_, _, _, _, rfl, .inl ⟨.inl (.inl (sh _ _ h1)), .inl (.inl (sh _ _ h2)), q _ (itd_zipL (.inl (.inl h1)) (.inl (.inl h2)) q1 q2)⟩⟩
    · cases e
      cases r with
      | cons r1 r2 =>
        cases r2 with
        | cons r2 r3 =>
          cases r3
          cases r1 with
          | tup h1 q1 =>
            cases r2 with
            | tup h2 q2 => exact ⟨_, _, _, _, rfl, .inr ⟨sh.sqT h1, sh.sqT h2, q _ (itd_zipT h1 h2 q1 q2)⟩⟩) h
theorem i_enum (hg : Gl X "enumerate") (hm : X.mg "enumerate" = none) (ha : PA X [e] (TAv X.K fs)) (hs : starEach [e] X.env = [(false, eval e X.env)] := by kernel_rfl!) :
    PI X (.Tuple elts kk tpos) (.Call (.Name "enumerate" p) [e] [] pos) (TIv X.K (iApp gEnum fs)) :=
  (pi_enum hg hm ha hs).imp fun σ H R h => tiv_app (t := iEnum X.K) (r := fun vs H1 R => ∃ a xs, vs = [.ref a] ∧ SqL X.K H1 a xs ∧ R (Ite X.K a) H1) (fun _ _ _ _ h => h) (fun S H vs ds zs R sh r e q => by
    unfold gEnum at e
    split at e
    case h_2 => cases e
    cases e
    cases r with
    | cons r1 r2 =>
      cases r2
      cases r1 with
      | lst h1 q1 => exact ⟨_, _, rfl, .inl (.inl (sh _ _ h1)), q _ (itd_enum (.inl (.inl h1)) q1)⟩) h
end

/-! ## the derivation's rules for statements -/
section
variable {X : Cx} {st : Stmt} {rest as bs : List Stmt} {a b : SS} {e c tg iter : Expr} {f fc : E} {g : Tg} {vs : List Nat} {src : EL} {pos : Pos}
theorem s_nil : PSs X [] (TSv X.K W sNil) := pss_nil.imp fun _ _ _ h => tsv_nil h
theorem s_cons (h1 : PS X st (TSv X.K W a)) (h2 : PSs X rest (TSv X.K W b)) : PSs X (st :: rest) (TSv X.K W (sSeq a b)) := (pss_cons h1 h2).imp fun _ _ _ h => tsv_seq h
theorem s_ret (h : PE X e (TEv X.K f)) : PS X (.Return (some e) pos) (TSv X.K W (sRet f)) := (ps_ret h).imp fun _ _ _ h => tsv_ret h
theorem s_expr (h : PE X e (TEv X.K f)) (hs : swapsWith e none pos.line X.env = pure false := by kernel_rfl!) : PS X (.Expr e pos) (TSv X.K W (sDrop f)) := (ps_expr h hs).imp fun _ _ _ h => tsv_drop h
theorem s_if (hc : PT X c (TTv X.K fc)) (ha : PSs X as (TSv X.K W a)) (hb : PSs X bs (TSv X.K W b)) : PS X (.If c as bs pos) (TSv X.K W (sIf fc a b)) := (ps_if hc ha hb).imp fun _ _ _ h => tsv_if h
theorem s_asg (he : PE X e (TEv X.K f)) (hg : PG X tg (TGv X.K vs g)) (hs : swapsWithSole [tg] e pos.line X.env = pure false := by kernel_rfl!) (hw : swappedStores [tg] e X.env = pure none := by kernel_rfl!) (h1 : (assignEach [tg] X.env).map (·.2) = [assign tg X.env] := by kernel_rfl!) :
    PS X (.Assign [tg] e pos) (TSv X.K W (sAsg g f)) := (ps_asg he hg hs hw h1).imp fun _ _ _ h => tsv_asg h
theorem s_for (hi : PI X tg iter (TIv X.K src)) (hg : PG X tg (TGv X.K vs g)) (hb : PSs X as (TSv X.K W a)) (hp : PassesOwn (model X.prog X.w) X.A X.env X.xe) (hc : X.calm = true) (hs : ∀ x, foldedSetIterable iter X.env x = pure x := by intro _; kernel_rfl!) :
    PS X (.For tg iter as [] pos) (TSv X.K W (sFor src g a)) := (ps_for hp hc hi hg hb hs).imp fun _ _ _ h => tsv_for h
theorem s_pass : PS X (.Pass pos) (TSv X.K W sNil) := ps_pass.imp fun _ _ _ h => tsv_nil h

theorem q_nil : PTs X [] (TTv X.K (eC (.bl true))) := ⟨fun pins s σ H Q I h => pts_nil.run pins s σ H Q I (by
  obtain ⟨S, F, ρ, dk, b, ρ', dk', R, e, q⟩ := h
  cases e
  exact q H S (Le.refl S) R)⟩
theorem q_one (h : PT X c (TTv X.K fc)) : PTs X [c] (TTv X.K fc) := pts_one h

variable {elt : Expr} {ifs : List Expr} {scope : Scope} {own : List (Str × Nat)} {tt ft : E}
theorem d_comp (hc : X.calm = true) (hN : X.N.Nodup) (hi : PI X tg iter (TIv X.K src)) (ok : BlkOk X.N X.env.scope scope own)
    (hg : ∀ (s : Shared) (H : Hp) (C : Addr) (cl : List (Str × Addr)) (fp : List Addr), PG (X.blk s H scope (compEnvC scope cl C X.env) fp) tg (TGv X.K (own.map (·.2)) g))
    (ht : ∀ (s : Shared) (H : Hp) (C : Addr) (cl : List (Str × Addr)) (fp : List Addr), PTs (X.blk s H scope (compEnvC scope cl C X.env) fp) ifs (TTv X.K tt))
    (he : ∀ (s : Shared) (H : Hp) (C : Addr) (cl : List (Str × Addr)) (fp : List Addr), PE (X.blk s H scope (compEnvC scope cl C X.env) fp) elt (TEv X.K ft)) (hs : ∀ x, foldedSetIterable iter X.env x = pure x := by intro _; kernel_rfl!) :
    PE X (.ListComp elt [⟨tg, iter, ifs, 0⟩] scope pos) (TEv X.K (eComp src (own.map (·.2)) g tt ft)) := (pe_lc hc hN hi ok hg ht he hs).imp fun _ _ _ h => tev_comp h
theorem s_comp {i : Nat} {y : Str} {py spos : Pos} (hc : X.calm = true) (hN : X.N.Nodup) (hy : X.N[i]? = some y) (hyl : X.env.scope.names.lookup y = some .local)
    (hsw : swapsWith (.ListComp elt [⟨tg, iter, ifs, 0⟩] scope pos) (some (.Name y py)) spos.line X.env = pure true) (hi : PI X tg iter (TIv X.K src)) (ok : BlkOk X.N X.env.scope scope own)
    (hg : ∀ (s : Shared) (H : Hp) (C : Addr) (cl : List (Str × Addr)) (fp : List Addr), PG (X.blk s H scope (compEnvC scope cl C X.env) fp) tg (TGv X.K (own.map (·.2)) g))
    (ht : ∀ (s : Shared) (H : Hp) (C : Addr) (cl : List (Str × Addr)) (fp : List Addr), PTs (X.blk s H scope (compEnvC scope cl C X.env) fp) ifs (TTv X.K tt))
    (he : ∀ (s : Shared) (H : Hp) (C : Addr) (cl : List (Str × Addr)) (fp : List Addr), PE (X.blk s H scope (compEnvC scope cl C X.env) fp) elt (TEv X.K ft)) (hs : ∀ x, foldedSetIterable iter X.env x = pure x := by intro _; kernel_rfl!) :
    PS X (.Assign [.Name y py] (.ListComp elt [⟨tg, iter, ifs, 0⟩] scope pos) spos) (TSv X.K W (sAsg (gSet i) (eComp src (own.map (·.2)) g tt ft))) :=
  (ps_setLc hc hN hy hyl hsw hi ok hg ht he hs).imp fun D' σ H h => by
    have h2 := tsv_asg (vs := [i]) h
    obtain ⟨S, F, ρ, dk, d, ρ', dk', R, e, q⟩ := h2
    exact tev_comp ⟨S, F, ρ, dk, d, ρ', dk', R, e, fun v H' S' l R' rv => tgv_set (q v H' S' l R' rv)⟩
/-- a def's call -/
theorem d_call {x : Str} {p : Pos} {a : Expr} {es : List Expr} {fs : EL} {fa : Addr} {fd : FuncData} {ps : List Str} {k n : Nat} {F : Fn} (G : FnG X.prog X.w X.K X.mg X.base CX0 k fa fd ps (spS X.K n F)) (hgu : X.A.guards = some []) (hr : Room k X.A) (hg : Gl X x) (hm : X.mg x = some (.ref fa)) (hk : PySem.W.keepIn X.K (.ref fa) = true) (hb : Binds X.K fd ps [])
    (ha : PA X (a :: es) (TAv X.K fs)) (hdb : (x == ("__debug__" : Str)) = false := by decide) (he : starEach (a :: es) X.env = (false, eval a X.env) :: starEach es X.env := by kernel_rfl!) (hpl : (backTo pos (starEach es X.env)).any (·.1) = false := by kernel_rfl!) :
    PE X (.Call (.Name x p) (a :: es) [] pos) (TEv X.K (eCallF n F fs)) := (callG (E := E0) G hgu hr hg hm hk hb .nil pass0 ha hdb he hpl).imp fun _ _ _ h => tev_callF h
theorem d_call0 {x : Str} {p : Pos} {fa : Addr} {fd : FuncData} {ps : List Str} {k n : Nat} {F : Fn} (G : FnG X.prog X.w X.K X.mg X.base CX0 k fa fd ps (spS X.K n F)) (hgu : X.A.guards = some []) (hr : Room k X.A) (hg : Gl X x) (hm : X.mg x = some (.ref fa)) (hk : PySem.W.keepIn X.K (.ref fa) = true) (hb : Binds X.K fd ps [])
    (hdb : (x == ("__debug__" : Str)) = false := by decide) : PE X (.Call (.Name x p) [] [] pos) (TEv X.K (eCallF n F aNil)) := (callG0 (E := E0) G hgu hr hg hm hk hb .nil pass0 hdb).imp fun σ H Q h => by
  have h2 := tev_callF (Ex := E0) h
  have h3 : TAv X.K aNil σ H fun vs H1 => spS X.K n F (vs ++ []) H1 Q E0 := h2
  exact tav_nil h3
end
end WS
namespace WS
open PySem PySem.Spec PyProof.Rows L2

/-! ## arithmetic -/
def gAdd : D → D → Option D
  | .int i, .int j => some (.int (i + j))
  | .int i, .bl k => some (.int (i + b2i k))
  | .str a, .str b => if a.length + b.length ≤ sizeLine then some (.str (a ++ b)) else none
  | .tup a, .tup b => if a.length + b.length ≤ sizeLine then some (.tup (a ++ b)) else none
  | .lst a, .lst b => if a.length + b.length ≤ sizeLine then some (.lst (a ++ b)) else none
  | _, _ => none
def gSub : D → D → Option D
  | .int i, .int j => some (.int (i - j))
  | _, _ => none
def gMul : D → D → Option D
  | .int i, .int j => if (-(2 ^ 64) < i ∧ i < 2 ^ 64) ∨ (-(2 ^ 64) < j ∧ j < 2 ^ 64) then some (.int (i * j)) else none
  | _, _ => none
def gMod : D → D → Option D
  | .int i, .int j => if 0 < j then some (.int (i % j)) else none
  | _, _ => none
def gFdiv : D → D → Option D
  | .int i, .int j => if 0 < j ∧ j < 1073741824 then some (.int (i / j)) else none
  | _, _ => none
def gPow : D → D → Option D
  | .int i, .int j => if 0 ≤ j ∧ j ≤ 1000000 ∧ i.natAbs < 2 ^ 64 then some (.int (i ^ j.toNat)) else none
  | _, _ => none
def gNeg : D → Option D
  | .int i => some (.int (-i))
  | _ => none

section
variable {X : Cx}
/-- two ints in, an int out -/
theorem opx_I {f : Value → Value → Sem Value} {C : Int → Int → Prop} {h : Int → Int → Int} {g : D → D → Option D} (hr : OpR X f (rI C fun i j => .int (h i j)))
    (hg : ∀ d e z, g d e = some z → ∃ i j, d = .int i ∧ e = .int j ∧ C i j ∧ z = .int (h i j)) : OpX X f g := by
  refine ⟨_, hr, fun S H x y d e z Q sh rx ry eg q => ?_⟩
  obtain ⟨i, j, rfl, rfl, c, rfl⟩ := hg d e z eg
  cases rx
  cases ry
  exact ⟨i, j, rfl, rfl, c, q _ S H (Grow.refl sh) (.int _)⟩
theorem x_sub : OpX X (binaryOp .Sub) gSub := by
  refine ⟨_, op_sub, fun S H x y d e z Q sh rx ry eg q => ?_⟩
  unfold gSub at eg
  split at eg
  case h_2 => cases eg
  cases eg
  cases rx
  cases ry
  exact ⟨_, _, rfl, rfl, q _ S H (Grow.refl sh) (.int _)⟩
theorem x_mul : OpX X (binaryOp .Mult) gMul := opx_I op_mul fun d e z h => by
  unfold gMul at h
  split at h
  case h_2 => cases h
  split at h
  · rename_i c; cases h; exact ⟨_, _, rfl, rfl, c, rfl⟩
  · cases h
theorem x_mod : OpX X (binaryOp .Mod) gMod := opx_I op_mod fun d e z h => by
  unfold gMod at h
  split at h
  case h_2 => cases h
  split at h
  · rename_i c; cases h; exact ⟨_, _, rfl, rfl, c, rfl⟩
  · cases h
theorem x_fdiv : OpX X (binaryOp .FloorDiv) gFdiv := opx_I op_fdiv fun d e z h => by
  unfold gFdiv at h
  split at h
  case h_2 => cases h
  split at h
  · rename_i c; cases h; exact ⟨_, _, rfl, rfl, c, rfl⟩
  · cases h
theorem x_pow : OpX X (binaryOp .Pow) gPow := opx_I op_pow fun d e z h => by
  unfold gPow at h
  split at h
  case h_2 => cases h
  split at h
  · rename_i c; cases h; exact ⟨_, _, rfl, rfl, c, rfl⟩
  · cases h
theorem x_neg : UnX X (unaryOp .USub) gNeg := by
  refine ⟨_, un_neg, fun S H x d z Q sh rx eg q => ?_⟩
  unfold gNeg at eg
  split at eg
  case h_2 => cases eg
  cases eg
  cases rx
  exact ⟨_, rfl, q _ S H (Grow.refl sh) (.int _)⟩
/-- one of several readings -/
theorem x_add : OpX X (binaryOp .Add) gAdd := by
  refine ⟨_, (op_add.or op_add_ib).or (op_add_str.or (op_catA.or op_cat)), fun S H x y d e z Q sh rx ry eg q => ?_⟩
  unfold gAdd at eg
  split at eg
  · cases eg
    cases rx
    cases ry
    exact .inl (.inl ⟨_, _, rfl, rfl, q _ S H (Grow.refl sh) (.int _)⟩)
  · cases eg
    cases rx
    cases ry
    exact .inl (.inr ⟨_, _, rfl, rfl, q _ S H (Grow.refl sh) (.int _)⟩)
  · split at eg
    case isFalse => cases eg
    rename_i hl
    cases eg
    cases rx
    cases ry
    exact .inr (.inl ⟨_, _, rfl, rfl, hl, q _ S H (Grow.refl sh) (.str _)⟩)
  · split at eg
    case isFalse => cases eg
    rename_i hl
    cases eg
    cases rx with
    | tup h1 r1 =>
      cases ry with
      | tup h2 r2 =>
        refine .inr (.inr (.inl ⟨_, _, _, _, rfl, rfl, sh.sqT h1, sh.sqT h2, by rw [r1.length, r2.length]; exact hl, fun e => ?_, fun e1 e2 => ?_, fun e1 e2 p hp => ?_⟩))
        · subst e
          cases r1
          exact q _ S H (Grow.refl sh) (by simpa using Rp.tup h2 r2)
        · subst e2
          cases r2
          exact q _ S H (Grow.refl sh) (by simpa using Rp.tup h1 r1)
        · exact q _ _ _ (Grow.add sh hp) (.tup (.inl (.inl Sx.add_at)) ((r1.app r2).mono (Grow.add sh hp).le))
  · split at eg
    case isFalse => cases eg
    rename_i hl
    cases eg
    cases rx with
    | lst h1 r1 =>
      cases ry with
      | lst h2 r2 =>
        refine .inr (.inr (.inr ⟨_, _, _, _, rfl, rfl, sh _ _ h1, sh _ _ h2, by rw [r1.length, r2.length]; exact hl, fun p hp => ?_⟩))
        exact q _ _ _ (Grow.add sh hp) (.lst Sx.add_at ((r1.app r2).mono (Grow.add sh hp).le))
  · cases eg
end

/-! ## comparisons -/
def gLt : D → D → Option D
  | .int i, .int j => some (.bl (decide (i < j)))
  | .str a, .str b => some (.bl (decide (a.cps.toList < b.cps.toList)))
  | _, _ => none
def gLe : D → D → Option D
  | .int i, .int j => some (.bl (decide (i ≤ j)))
  | .str a, .str b => some (.bl (!decide (b.cps.toList < a.cps.toList)))
  | _, _ => none
def gGt : D → D → Option D
  | .int i, .int j => some (.bl (decide (j < i)))
  | .str a, .str b => some (.bl (decide (b.cps.toList < a.cps.toList)))
  | _, _ => none
def gGe : D → D → Option D
  | .int i, .int j => some (.bl (decide (j ≤ i)))
  | .str a, .str b => some (.bl (!decide (a.cps.toList < b.cps.toList)))
  | _, _ => none
def isNonD : D → Bool
  | .non => true
  | _ => false
def gIs : D → D → Option D
  | .bl a, .bl b => some (.bl (decide (a = b)))
  | d, .non => some (.bl (isNonD d))
  | _, _ => none
def gIsNot : D → D → Option D
  | .bl a, .bl b => some (.bl (!decide (a = b)))
  | d, .non => some (.bl (!isNonD d))
  | _, _ => none
mutual
def toP : D → Option PyData
  | .non => some .none
  | .bl b => some (.bool b)
  | .int i => some (.int i)
  | .str x => some (.str x)
  | .tup xs => (toPs xs).map .tuple
  | .lst xs => (toPs xs).map .list
  | .rdl xs => (toPs xs).map .list
  | _ => none
def toPs : List D → Option (List PyData)
  | [] => some []
  | x :: r => (toP x).bind fun p => (toPs r).map fun q => p :: q
end
def eqD (d e : D) : Option Bool := (toP d).bind fun p => (toP e).bind fun q => if SeqAt.shaped p = true ∧ SeqAt.shaped q = true then some (PyData.eqv p q) else none
def gEq (d e : D) : Option D := (eqD d e).map .bl
def gNe (d e : D) : Option D := (eqD d e).map fun b => .bl (!b)

section
variable {K : PySem.W.Frag} {S : Sx} {H : Hp}
mutual
theorem toP_dp (sh : Sub S.hp H) : ∀ {v : V} {d : D} {p : PyData}, Rp K S v d → toP d = some p → Dp K H v p
  | _, _, _, .non, e => by cases e; exact .non
  | _, _, _, .bl b, e => by cases e; exact .bl b
  | _, _, _, .int i, e => by cases e; exact .int i
  | _, _, _, .str x, e => by cases e; exact .str x
  | _, .tup ds, p, .tup h r, e => by
    unfold toP at e
    cases q : toPs ds with
    | none => rw [q] at e; cases e
    | some ps => rw [q] at e; cases e; exact .tup (sh.sqT h) (toPs_dp sh r q)
  | _, .lst ds, p, .lst h r, e => by
    unfold toP at e
    cases q : toPs ds with
    | none => rw [q] at e; cases e
    | some ps => rw [q] at e; cases e; exact .lst (.inl (.inl (sh _ _ h))) (toPs_dp sh r q)
  | _, .rdl ds, p, .rdl h r, e => by
    unfold toP at e
    cases q : toPs ds with
    | none => rw [q] at e; cases e
    | some ps => rw [q] at e; cases e; exact .lst (sh.sqL h) (toPs_dp sh r q)
  | _, _, _, .dct _ _ _ _, e => by cases e
  | _, _, _, .ins _ _ _ _ _ _, e => by cases e
  | _, _, _, .exc _ _ _ _ _ _ _, e => by cases e
  | _, _, _, .exc0 _ _ _, e => by cases e
  | _, _, _, .ty _, e => by cases e
  | _, _, _, .obj _, e => by cases e
  | _, _, _, .deck _, e => by cases e
theorem toPs_dp (sh : Sub S.hp H) : ∀ {v : List V} {d : List D} {p : List PyData}, RpL K S v d → toPs d = some p → DpAll K H v p
  | _, _, _, .nil, e => by cases e; exact .nil
  | _, d :: ds, p, .cons h r, e => by
    unfold toPs at e
    cases q : toP d with
    | none => rw [q] at e; cases e
    | some a =>
      cases q2 : toPs ds with
      | none => rw [q, q2] at e; cases e
      | some b => rw [q, q2] at e; cases e; exact .cons (toP_dp sh h q) (toPs_dp sh r q2)
end
theorem Rp.isNon {v : V} {d : D} (h : Rp K S v d) : decide (v = .non) = isNonD d := by cases h <;> rfl
end
section
variable {X : Cx}
/-- ints or texts -/
theorem opx_IS {f : Value → Value → Sem Value} {h : Int → Int → Bool} {h' : Str → Str → Bool} {g : D → D → Option D} (hr : OpR X f (rI0 fun i j => .bl (h i j))) (hs : OpR X f (fun x y H Q => ∃ i j, x = .str i ∧ y = .str j ∧ Q (.bl (h' i j)) H))
    (hg : ∀ d e z, g d e = some z → (∃ i j, d = .int i ∧ e = .int j ∧ z = .bl (h i j)) ∨ ∃ i j, d = .str i ∧ e = .str j ∧ z = .bl (h' i j)) : OpX X f g := by
  refine ⟨_, hr.or hs, fun S H x y d e z Q sh rx ry eg q => ?_⟩
  rcases hg d e z eg with ⟨i, j, rfl, rfl, rfl⟩ | ⟨i, j, rfl, rfl, rfl⟩
  · cases rx
    cases ry
    exact .inl ⟨i, j, rfl, rfl, q _ S H (Grow.refl sh) (.bl _)⟩
  · cases rx
    cases ry
    exact .inr ⟨i, j, rfl, rfl, q _ S H (Grow.refl sh) (.bl _)⟩
theorem x_lt : OpX X (compareOp .Lt) gLt := opx_IS op_lt op_lt_str fun d e z h => by
  unfold gLt at h
  split at h
  · cases h; exact .inl ⟨_, _, rfl, rfl, rfl⟩
  · cases h; exact .inr ⟨_, _, rfl, rfl, rfl⟩
  · cases h
theorem x_le : OpX X (compareOp .LtE) gLe := opx_IS op_le op_le_str fun d e z h => by
  unfold gLe at h
  split at h
  · cases h; exact .inl ⟨_, _, rfl, rfl, rfl⟩
  · cases h; exact .inr ⟨_, _, rfl, rfl, rfl⟩
  · cases h
theorem x_gt : OpX X (compareOp .Gt) gGt := opx_IS op_gt op_gt_str fun d e z h => by
  unfold gGt at h
  split at h
  · cases h; exact .inl ⟨_, _, rfl, rfl, rfl⟩
  · cases h; exact .inr ⟨_, _, rfl, rfl, rfl⟩
  · cases h
theorem x_ge : OpX X (compareOp .GtE) gGe := opx_IS op_ge op_ge_str fun d e z h => by
  unfold gGe at h
  split at h
  · cases h; exact .inl ⟨_, _, rfl, rfl, rfl⟩
  · cases h; exact .inr ⟨_, _, rfl, rfl, rfl⟩
  · cases h
theorem x_is : OpX X (compareOp .Is) gIs := by
  refine ⟨_, op_is_bl.or op_isN, fun S H x y d e z Q sh rx ry eg q => ?_⟩
  unfold gIs at eg
  split at eg
  · cases eg; cases rx; cases ry
    exact .inl ⟨_, _, rfl, rfl, q _ S H (Grow.refl sh) (.bl _)⟩
  · cases eg; cases ry
    exact .inr ⟨rfl, by rw [rx.isNon]; exact q _ S H (Grow.refl sh) (.bl _)⟩
  · cases eg
theorem x_isnot : OpX X (compareOp .IsNot) gIsNot := by
  refine ⟨_, op_isnot_bl.or op_notN, fun S H x y d e z Q sh rx ry eg q => ?_⟩
  unfold gIsNot at eg
  split at eg
  · cases eg; cases rx; cases ry
    exact .inl ⟨_, _, rfl, rfl, q _ S H (Grow.refl sh) (.bl _)⟩
  · cases eg; cases ry
    exact .inr ⟨rfl, by rw [rx.isNon]; exact q _ S H (Grow.refl sh) (.bl _)⟩
  · cases eg
theorem eqD_spec {d e : D} {b : Bool} (h : eqD d e = some b) : ∃ p q, toP d = some p ∧ toP e = some q ∧ SeqAt.shaped p = true ∧ SeqAt.shaped q = true ∧ b = PyData.eqv p q := by
  unfold eqD at h
  cases hp : toP d with
  | none => rw [hp] at h; cases h
  | some p =>
    cases hq : toP e with
    | none => rw [hp, hq] at h; cases h
    | some q =>
      rw [hp, hq] at h
      simp only [Option.bind_some] at h
      split at h
      · rename_i c; cases h; exact ⟨p, q, rfl, rfl, c.1, c.2, rfl⟩
      · cases h
theorem x_eq (hu : X.A.units + 64 < cLine) : OpX X (compareOp .Eq) gEq := by
  refine ⟨_, op_eqD hu, fun S H x y d e z Q sh rx ry eg q => ?_⟩
  unfold gEq at eg
  cases h : eqD d e with
  | none => rw [h] at eg; cases eg
  | some b =>
    rw [h] at eg
    cases eg
    obtain ⟨p, r, h1, h2, h3, h4, rfl⟩ := eqD_spec h
    exact ⟨p, r, toP_dp sh rx h1, toP_dp sh ry h2, h3, h4, q _ S H (Grow.refl sh) (.bl _)⟩
theorem x_ne (hu : X.A.units + 64 < cLine) : OpX X (compareOp .NotEq) gNe := by
  refine ⟨_, op_neD hu, fun S H x y d e z Q sh rx ry eg q => ?_⟩
  unfold gNe at eg
  cases h : eqD d e with
  | none => rw [h] at eg; cases eg
  | some b =>
    rw [h] at eg
    cases eg
    obtain ⟨p, r, h1, h2, h3, h4, rfl⟩ := eqD_spec h
    exact ⟨p, r, toP_dp sh rx h1, toP_dp sh ry h2, h3, h4, q _ S H (Grow.refl sh) (.bl _)⟩
end

/-! ## chains -/
def eChain (g g' : D → D → Option D) (a b c : E) : E := fun ρ k => (a ρ k).bind fun x => (b x.2.1 x.2.2).bind fun y => (g x.1 y.1).bind fun t => match t with
  | .bl true => (c y.2.1 y.2.2).bind fun z => (g' y.1 z.1).map fun u => (u, z.2.1, z.2.2)
  | .bl false => some (.bl false, y.2.1, y.2.2)
  | _ => none
theorem tev_chain {K : PySem.W.Frag} {σ : L2.St} {H : Hp} {Q : VK} {r r' : R2} {g g' : D → D → Option D} {fa fb fc : E} (hr : OpD K r g) (hr' : OpD K r' g') (h : TEv K (eChain g g' fa fb fc) σ H Q) : tChain r r' (TEv K fa) (TEv K fb) (TEv K fc) σ H Q := by
  obtain ⟨S, F, ρ, dk, d, ρ', dk', R, e, q⟩ := h
  unfold eChain at e
  cases ea : fa ρ dk with
  | none => rw [ea] at e; cases e
  | some xa =>
    obtain ⟨da, ρ1, k1⟩ := xa
    rw [ea] at e
    simp only [Option.bind_some] at e
    cases eb : fb ρ1 k1 with
    | none => rw [eb] at e; cases e
    | some xb =>
      obtain ⟨db, ρ2, k2⟩ := xb
      rw [eb] at e
      simp only [Option.bind_some] at e
      cases eg : g da db with
      | none => rw [eg] at e; cases e
      | some t =>
        rw [eg] at e
        simp only [Option.bind_some] at e
        refine ⟨S, F, ρ, dk, da, ρ1, k1, R, ea, fun v H1 S1 l1 R1 rv => ⟨S1, F, ρ1, k1, db, ρ2, k2, R1, eb, fun u H2 S2 l2 R2 ru => ?_⟩⟩
        refine hr S2 H2 v u da db t _ R2.sh (rv.mono l2) ru eg fun w S3 H3 gr rw' => ?_
        have R3 := R2.grow gr
        split at e
        · cases rw'
          refine ⟨true, rfl, ?_⟩
          rw [if_pos rfl]
          cases ec : fc ρ2 k2 with
          | none => rw [ec] at e; cases e
          | some xc =>
            obtain ⟨dc, ρ3, k3⟩ := xc
            rw [ec] at e
            simp only [Option.bind_some] at e
            cases eg' : g' db dc with
            | none => rw [eg'] at e; cases e
            | some z =>
              rw [eg'] at e
              simp only [Option.map_some] at e
              cases e
              refine ⟨S3, F, ρ2, k2, dc, _, _, R3, ec, fun u' H4 S4 l4 R4 ru' => ?_⟩
              exact hr' S4 H4 u u' db dc _ Q R4.sh ((ru.mono gr.le).mono l4) ru' eg' fun w' S5 H5 gr' r5 => q w' H5 S5 ((((l1.trans l2).trans gr.le).trans l4).trans gr'.le) (R4.grow gr') r5
        · cases rw'
          cases e
          refine ⟨false, rfl, ?_⟩
          rw [if_neg Bool.false_ne_true]
          exact q _ H3 S3 ((l1.trans l2).trans gr.le) R3 (.bl false)
        · cases e
section
variable {X : Cx} {a b c : Expr} {fa fb fc : E} {pos : Pos} {op op' : CmpOp} {g g' : D → D → Option D}
theorem d_chain (ho : OpX X (compareOp op) g) (ho' : OpX X (compareOp op') g') (ha : PE X a (TEv X.K fa)) (hb : PE X b (TEv X.K fb)) (hc : PE X c (TEv X.K fc)) (hm : lastMarks [op, op'] [b, c] = false := by kernel_rfl!) : PE X (.Compare a [op, op'] [b, c] pos) (TEv X.K (eChain g g' fa fb fc)) := by
  obtain ⟨r, h1, h2⟩ := ho
  obtain ⟨r', h1', h2'⟩ := ho'
  exact (pe_chain h1 h1' ha hb hc hm).imp fun _ _ _ h => tev_chain h2 h2' h
theorem q_chain (ho : OpX X (compareOp op) g) (ho' : OpX X (compareOp op') g') (ha : PE X a (TEv X.K fa)) (hb : PE X b (TEv X.K fb)) (hc : PE X c (TEv X.K fc)) (hm : lastMarks [op, op'] [b, c] = false := by kernel_rfl!) : PT X (.Compare a [op, op'] [b, c] pos) (TTv X.K (eChain g g' fa fb fc)) := by
  obtain ⟨r, h1, h2⟩ := ho
  obtain ⟨r', h1', h2'⟩ := ho'
  exact (pt_chain h1 h1' ha hb hc hm).imp fun _ _ _ h => tev_chain h2 h2' (ttv_val h)
end
end WS
namespace WS
open PySem PySem.Spec PyProof.Rows L2

/-! ## subscripts, slices -/
def gIx : D → D → Option D
  | .tup xs, .int i => atI xs i
  | .lst xs, .int i => atI xs i
  | .rdl xs, .int i => atI xs i
  | .str x, .int i => if x.length ≤ sizeLine then (atI x.cps.toList i).map fun c => .str ⟨#[c]⟩ else none
  | _, _ => none
def cutD (xs : List D) (lo hi : Option Int) : List D := (xs.drop (HT.sIx xs.length 0 lo)).take (HT.sIx xs.length xs.length hi - HT.sIx xs.length 0 lo)
def gSl : D → Option Int → Option Int → Option D
  | .tup xs, lo, hi => some (.tup (cutD xs lo hi))
  | .lst xs, lo, hi => some (.lst (cutD xs lo hi))
  | .rdl xs, lo, hi => some (.lst (cutD xs lo hi))
  | .str x, lo, hi => if x.length ≤ sizeLine then some (.str (cutS x lo hi)) else none
  | _, _, _ => none
abbrev EO := List Sl → Dk → Option (Option Int × List Sl × Dk)
def oNone : EO := fun ρ k => some (none, ρ, k)
def oSome (e : E) : EO := fun ρ k => (e ρ k).bind fun x => match x.1 with
  | .int i => some (some i, x.2.1, x.2.2)
  | _ => none
def eSl (e : E) (lo hi : EO) : E := fun ρ k => (e ρ k).bind fun x => (lo x.2.1 x.2.2).bind fun l => (hi l.2.1 l.2.2).bind fun u => (gSl x.1 l.1 u.1).map fun z => (z, u.2.1, u.2.2)
def TOv (K : PySem.W.Frag) (f : EO) : TO := fun σ H Q => ∃ S F ρ dk o ρ' dk', Rep K σ H S F ρ dk ∧ f ρ dk = some (o, ρ', dk') ∧ ∀ H' S', Le S S' → Rep K σ H' S' F ρ' dk' → Q o H'
def gRev : D → Option D
  | .tup xs => some (.tup xs.reverse)
  | .lst xs => some (.lst xs.reverse)
  | .rdl xs => some (.lst xs.reverse)
  | _ => none

section
variable {K : PySem.W.Frag} {S : Sx}
theorem RpL.atI {vs : List V} {ds : List D} (r : RpL K S vs ds) {i : Int} {d : D} (h : L2.atI ds i = some d) : ∃ v, L2.atI vs i = some v ∧ Rp K S v d := by
  unfold L2.atI at h ⊢
  rw [r.length]
  cases q : ixN ds.length i with
  | none => rw [q] at h; cases h
  | some j =>
    rw [q] at h
    exact r.get h
theorem RpL.cut {vs : List V} {ds : List D} (r : RpL K S vs ds) (lo hi : Option Int) : RpL K S (cutV vs lo hi) (cutD ds lo hi) := by
  unfold cutV cutD
  rw [r.length]
  exact (r.drop _).take _
theorem RpL.cut_whole {vs : List V} {ds : List D} (r : RpL K S vs ds) {lo hi : Option Int} (h : HT.sIx vs.length 0 lo = 0 ∧ HT.sIx vs.length vs.length hi = vs.length) : cutD ds lo hi = ds := by
  rw [r.length] at h
  unfold cutD
  rw [h.1, h.2]
  simp
end
section
variable {X : Cx} {a b : Expr} {fa : E} {pos p2 : Pos} {lo hi : Option Expr} {fl fh : EO}
theorem x_ix : IxX X gIx := by
  refine ⟨_, ix_seq, fun S H x y d e z Q sh rx ry eg q => ?_⟩
  unfold gIx at eg
  split at eg
  · cases ry
    cases rx with
    | tup h r =>
      obtain ⟨v, hv, rv⟩ := r.atI eg
      exact .inr (.inl ⟨_, _, _, v, rfl, rfl, sh.sqT h, hv, q _ S H (Grow.refl sh) rv⟩)
  · cases ry
    cases rx with
    | lst h r =>
      obtain ⟨v, hv, rv⟩ := r.atI eg
      exact .inl ⟨_, _, _, v, rfl, rfl, .inl (.inl (sh _ _ h)), hv, q _ S H (Grow.refl sh) rv⟩
  · cases ry
    cases rx with
    | rdl h r =>
      obtain ⟨v, hv, rv⟩ := r.atI eg
      exact .inl ⟨_, _, _, v, rfl, rfl, sh.sqL h, hv, q _ S H (Grow.refl sh) rv⟩
  · cases ry
    cases rx
    split at eg
    case isFalse => cases eg
    rename_i x i hl
    cases hc : L2.atI x.cps.toList i with
    | none => rw [hc] at eg; cases eg
    | some c =>
      rw [hc] at eg
      cases eg
      exact .inr (.inr ⟨_, _, c, rfl, rfl, hl, hc, q _ S H (Grow.refl sh) (.str _)⟩)
  · cases eg
theorem tov_none {K : PySem.W.Frag} {σ : L2.St} {H : Hp} {Q : Option Int → Hp → Prop} (h : TOv K oNone σ H Q) : tNoPart σ H Q := by
  obtain ⟨S, F, ρ, dk, o, ρ', dk', R, e, q⟩ := h
  cases e
  exact q H S (Le.refl S) R
theorem tov_some {K : PySem.W.Frag} {σ : L2.St} {H : Hp} {Q : Option Int → Hp → Prop} (h : TOv K (oSome fa) σ H Q) : tPart (TEv K fa) σ H Q := by
  obtain ⟨S, F, ρ, dk, o, ρ', dk', R, e, q⟩ := h
  unfold oSome at e
  cases ea : fa ρ dk with
  | none => rw [ea] at e; cases e
  | some x =>
    obtain ⟨d, ρ1, k1⟩ := x
    rw [ea] at e
    simp only [Option.bind_some] at e
    refine ⟨S, F, ρ, dk, d, ρ1, k1, R, ea, fun v H1 S1 l1 R1 rv => ?_⟩
    split at e
    · cases e
      cases rv
      exact ⟨_, rfl, q H1 S1 l1 R1⟩
    · cases e
theorem _root_.L2.PO.imp {X : Cx} {e : Option Expr} {t t' : TO} (h : PO X e t) (i : ∀ σ H Q, t' σ H Q → t σ H Q) : PO X e t' := ⟨fun pins s σ H Q I q => h.run pins s σ H Q I (i _ _ _ q)⟩
theorem o_none : PO X none (TOv X.K oNone) := po_none.imp fun _ _ _ h => tov_none h
theorem o_some (h : PE X a (TEv X.K fa)) : PO X (some a) (TOv X.K (oSome fa)) := (po_some h).imp fun _ _ _ h => tov_some h
theorem d_slice (he : PE X a (TEv X.K fa)) (hl : PO X lo (TOv X.K fl)) (hu : PO X hi (TOv X.K fh)) : PE X (.Subscript a (.Slice lo hi none p2) pos) (TEv X.K (eSl fa fl fh)) :=
  (pe_slice (sl_tupA.or (sl_list.or sl_str)) he hl hu).imp fun σ H Q h => by
    obtain ⟨S, F, ρ, dk, d, ρ', dk', R, e, q⟩ := h
    unfold eSl at e
    cases ea : fa ρ dk with
    | none => rw [ea] at e; cases e
    | some x =>
      obtain ⟨d1, ρ1, k1⟩ := x
      rw [ea] at e
      simp only [Option.bind_some] at e
      cases el : fl ρ1 k1 with
      | none => rw [el] at e; cases e
      | some y =>
        obtain ⟨l, ρ2, k2⟩ := y
        rw [el] at e
        simp only [Option.bind_some] at e
        cases eh : fh ρ2 k2 with
        | none => rw [eh] at e; cases e
        | some z =>
          obtain ⟨u, ρ3, k3⟩ := z
          rw [eh] at e
          simp only [Option.bind_some] at e
          cases eg : gSl d1 l u with
          | none => rw [eg] at e; cases e
          | some w =>
            rw [eg] at e
            simp only [Option.map_some] at e
            cases e
            refine ⟨S, F, ρ, dk, d1, ρ1, k1, R, ea, fun v H1 S1 l1 R1 rv => ⟨S1, F, ρ1, k1, l, ρ2, k2, R1, el, fun H2 S2 l2 R2 => ⟨S2, F, ρ2, k2, u, _, _, R2, eh, fun H3 S3 l3 R3 => ?_⟩⟩⟩
            have rv3 := (rv.mono l2).mono l3
            have ll := (l1.trans l2).trans l3
            unfold gSl at eg
            split at eg
            · cases eg
              cases rv3 with
              | tup h r =>
                refine .inl ⟨_, _, rfl, R3.sh.sqT h, fun hw => ?_, fun hw p hp => ?_⟩
                · rw [r.cut_whole hw] at q
                  exact q _ H3 S3 ll R3 (.tup h r)
                · exact q _ _ _ (ll.trans (Grow.add R3.sh hp).le) (R3.grow (Grow.add R3.sh hp)) (.tup (.inl (.inl Sx.add_at)) ((r.cut l u).mono (Grow.add R3.sh hp).le))
            · cases eg
              cases rv3 with
              | lst h r =>
                refine .inr (.inl ⟨_, _, rfl, .inl (.inl (R3.sh _ _ h)), fun p hp => ?_⟩)
                exact q _ _ _ (ll.trans (Grow.add R3.sh hp).le) (R3.grow (Grow.add R3.sh hp)) (.lst Sx.add_at ((r.cut l u).mono (Grow.add R3.sh hp).le))
            · cases eg
              cases rv3 with
              | rdl h r =>
                refine .inr (.inl ⟨_, _, rfl, R3.sh.sqL h, fun p hp => ?_⟩)
                exact q _ _ _ (ll.trans (Grow.add R3.sh hp).le) (R3.grow (Grow.add R3.sh hp)) (.lst Sx.add_at ((r.cut l u).mono (Grow.add R3.sh hp).le))
            · split at eg
              case isFalse => cases eg
              rename_i hl
              cases eg
              cases rv3
              exact .inr (.inr ⟨_, rfl, hl, q _ H3 S3 ll R3 (.str _)⟩)
            · cases eg
end

/-! ### t[::-1] -/
section
variable {prog : Program} {w : World} {A : Around} {E : Value → Shared → Prop} {s : Shared}
theorem rev_places (n : Nat) : Builtin.Slice.sliceAdjust none none (-1) (n : Int) = ((n : Int) - 1, -1) ∧ Builtin.Slice.slicePlaces ((n : Int) - 1) (-1) (-1) = n := by
  refine ⟨rfl, ?_⟩
  unfold Builtin.Slice.slicePlaces
  rw [if_neg (show ¬ ((-1 : Int) > 0) by decide)]
  by_cases h : (n : Int) - 1 > -1
  · rw [if_pos h]
    have e : ((n : Int) - 1 - -1 - 1) / -(-1) + 1 = (n : Int) := by
      rw [show (-(-1) : Int) = 1 by decide, Int.ediv_one]
      omega
    rw [e]; rfl
  · rw [if_neg h]
    have : n = 0 := by omega
    subst this; rfl
theorem fm_congr {α β : Type} {f g : α → Option β} : ∀ {l : List α}, (∀ x ∈ l, f x = g x) → l.filterMap f = l.filterMap g
  | [], _ => rfl
  | x :: l, h => by
    rw [List.filterMap_cons, List.filterMap_cons, h x (by simp), fm_congr fun y hy => h y (by simp [hy])]
theorem rev_pick (xs : Array Value) : ((List.range xs.size).filterMap fun (k : Nat) => xs[((xs.size : Int) - 1 + (k : Int) * (-1)).toNat]?).toArray = xs.toList.reverse.toArray := by
  have e1 : (List.range xs.size).filterMap (fun (k : Nat) => xs[((xs.size : Int) - 1 + (k : Int) * (-1)).toNat]?) = (List.range xs.size).filterMap ((fun j => xs[j]?) ∘ fun k => xs.size - 1 - k) := fm_congr fun k hk => by
    have hk' : k < xs.size := List.mem_range.mp hk
    have e : ((xs.size : Int) - 1 + (k : Int) * (-1)).toNat = xs.size - 1 - k := by omega
    rw [e]; rfl
  rw [e1, ← List.filterMap_map, PySem.W.krv_range, List.filterMap_reverse, PySem.W.krv_all]
theorem getItem_tuple_rev {t sl : Addr} {items : Array Value} {tk : Tok} {Q : Value → Shared → Prop} (ht : IsTup s.heap t items) (hs : s.heap.IsSliceOf sl .none .none (.int (-1) tk))
    (h : Q (.ref s.heap.objs.size) { s with heap := s.heap.push { cls := .type "tuple", data := .seq items.toList.reverse.toArray } }) (hsz : items.size ≤ sizeLine) : wpAny (model prog w) A (getItem (.ref t) (.ref sl)) Q E s := by
  obtain ⟨os, hos, hcs, hds⟩ := id hs
  have hTs : s.TypeIs (.ref sl) "slice" := ⟨os, hos, hcs⟩
  have hfit : sizeOk (.seq items.toList.reverse.toArray) := by
    show items.toList.reverse.toArray.size ≤ sizeLine
    simpa using hsz
  unfold getItem
  try with_reducible refine wpAny_holding ?_
  first | refine wpAny_bind (wpAny_pure ?_) | skip
  refine wpAny_bind (wpAny_sequenceKey ht.typeIs (by decide) ?_)
  refine wpAny_bind (wpAny_callSpecial?_slot (name := Str.ofString "__getitem__") ht.typeIs PyProof.Rows.slot_tuple_getitem (wpAny_call_entry PyProof.Rows.slot_tuple_getitem ht.typeIs entry_tuple_getitem ?_ (args_tuple_getitem _ _)))
  show wpAny _ _ (Builtin.Tuple.tupleItemsOf (.ref t) >>= _) _ _ s
  refine wpAny_bind (tupleItemsOf_ ht ?_)
  refine wpAny_bind (wpAny_typeOf hTs ?_)
  rw [if_pos (by decide)]
  refine wpAny_bind ?_
  · unfold Builtin.Slice.sliceApplied Builtin.Slice.sliceFields
    refine wpAny_bind (wpAny_bind (wpAny_field hos hds (x := .none) rfl (wpAny_bind (wpAny_field hos hds (x := .none) rfl (wpAny_bind (wpAny_field hos hds (x := .int (-1) tk) rfl (wpAny_pure ?_)))))))
    refine wpAny_bind (slicePart_int ?_)
    show wpAny _ _ (if ((-1 : Int) == 0) = true then _ else _) _ _ s
    rw [if_neg (by decide)]
    refine wpAny_bind (slicePart_none (wpAny_bind (slicePart_none (wpAny_bind (wpAny_pure ?_)))))
    show wpAny _ _ (match Builtin.Slice.sliceAdjust none none (-1) (items.size : Int) with | (lo, hi) => pure (lo, (-1 : Int), Builtin.Slice.slicePlaces lo hi (-1))) _ _ s
    rw [(rev_places items.size).1]
    show wpAny _ _ (pure ((items.size : Int) - 1, (-1 : Int), Builtin.Slice.slicePlaces ((items.size : Int) - 1) (-1) (-1))) _ _ s
    rw [(rev_places items.size).2]
    refine wpAny_pure ?_
    have hno : ¬ (((items.size : Int) - 1 == 0 && (-1 : Int) == 1 && items.size == items.size) = true) := by
      intro z
      rw [Bool.and_eq_true, Bool.and_eq_true] at z
      exact absurd z.1.2 (by decide)
    show wpAny _ _ (if ((items.size : Int) - 1 == 0 && (-1 : Int) == 1 && items.size == items.size) = true then _ else _) _ _ s
    rw [if_neg hno, rev_pick]
    first
      | exact wpAny_bind (m := Builtin.Tuple.tupleExact _) (wpAny_newObj_type (wpAny_pure ⟨_, rfl, wpAny_pure h⟩) hfit)
      | exact wpAny_bind (m := Builtin.Tuple.tupleExact _) (wpAny_newObj_type (wpAny_bind (wpAny_pure (wpAny_pure ⟨_, rfl, wpAny_pure h⟩))) hfit)
      | exact wpAny_bind (wpAny_bind (m := Builtin.Tuple.tupleExact _) (wpAny_newObj_type (wpAny_pure (wpAny_pure ⟨_, rfl, wpAny_pure h⟩)) hfit))
      | exact wpAny_bind (wpAny_bind (m := Builtin.Tuple.tupleExact _) (wpAny_newObj_type (wpAny_pure ⟨_, rfl, wpAny_pure h⟩) hfit))
end
section
variable {X : Cx} {a : Expr} {fa : E} {pos p1 p2 p3 : Pos} {k : Nat}
def tRevA (K : PySem.W.Frag) (te : TE) : TE := fun σ H Q => te σ H fun x H1 => ∃ a xs, x = .ref a ∧ ((SqL K H1 a xs ∧ ∀ p, H1 p = none → Q (.ref p) (upd H1 p (.lst xs.reverse))) ∨ (SqT K H1 a xs ∧ ∀ p, H1 p = none → Q (.ref p) (upd H1 p (.tup xs.reverse))))
theorem pe_revA {te : TE} (he : PE X a te) : PE X (.Subscript a (.Slice none none (some (.UnaryOp .USub (.Constant (.int 1) k p1) p2)) p3) pos) (tRevA X.K te) := by
  refine ⟨fun pins s σ H Q I h => ?_⟩
  refine Subscript_ (thn (he.run pins s σ H _ I h) ?_)
  intro v s1 ⟨x, H1, I1, r1, q1⟩
  obtain ⟨c, xs, ex, q⟩ := q1
  subst ex
  cases r1
  have hst : PO X (some (.UnaryOp .USub (.Constant (.int 1) k p1) p2)) (tPart (tUn (rU fun i => .int (-i)) (tC (.int 1)))) := po_some (pe_un un_neg pe_int)
  refine wpAny_Slice (thn (po_none.run pins s1 σ H1 (fun o H2 => o = none ∧ H2 = H1) I1 ⟨rfl, rfl⟩) ?_)
  intro vl s2 ⟨l, H2, I2, pl, el, e2⟩
  subst el e2
  refine thn (po_none.run pins s2 σ H2 (fun o H3 => o = none ∧ H3 = H2) I2 ⟨rfl, rfl⟩) ?_
  intro vu s3 ⟨u, H3, I3, pu, eu, e3⟩
  subst eu e3
  refine thn (hst.run pins s3 σ H3 (fun o H4 => o = some (-1) ∧ H4 = H3) I3 ⟨1, rfl, -1, rfl, rfl, rfl⟩) ?_
  intro vs s4 ⟨o, H4, I4, ps, eo, e4⟩
  subst eo e4
  have I5 : Inv X pins σ H4 { s4 with heap := s4.heap.push { cls := .type "slice", data := .fields #[vl, vu, vs] } } := I4.kept (t' := s4.toks) fun b ob q => Heap.get?_push_of_some _ q
  rcases q with ⟨hx, q⟩ | ⟨hx, q⟩
  · obtain ⟨its, r, ht, hz⟩ := I5.list hx
    have hlen := r.length
    show wpAny (model X.prog X.w) X.A (subscriptTail a (.Slice none none (some (.UnaryOp .USub (.Constant (.int 1) k p1) p2)) p3) (.ref c) (.ref s4.heap.objs.size)) (EP X pins σ Q) X.xe { s4 with heap := s4.heap.push { cls := .type "slice", data := .fields #[vl, vu, vs] } }
    refine tail_any (ops := [.ref c, .ref s4.heap.objs.size]) ht.isList.typeIs (PySem.slot_list_getitem.lookup) ?_ (by with_unfolding_all rfl)
    refine wpAny_getItem_list_slice ht.isList (Heap.IsSliceOf.new _ vl vu vs) pl pu ps (by decide) ?_ (by rw [List.size_toArray]; omega)
    rw [PySem.W.krv_pick]
    exact ⟨.ref _, _, I5.laid (t' := s4.toks) (o := .lst xs.reverse) (fun b ob q => Heap.get?_push_of_some _ q) (Nat.le_refl _) ⟨by rw [List.length_reverse]; exact hz, _, 0, r.reverse, Heap.get?_push_size _ rfl⟩, rfl, q _ (I5.hok.fresh (Nat.le_refl _))⟩
  · obtain ⟨its, r, ht, hz⟩ := I5.tuple hx
    have hlen := r.length
    cases pl
    cases pu
    cases ps with
    | int i t =>
      show wpAny (model X.prog X.w) X.A (subscriptTail a (.Slice none none (some (.UnaryOp .USub (.Constant (.int 1) k p1) p2)) p3) (.ref c) (.ref s4.heap.objs.size)) (EP X pins σ Q) X.xe { s4 with heap := s4.heap.push { cls := .type "slice", data := .fields #[.none, .none, .int (-1) t] } }
      refine tail_any (ops := [.ref c, .ref s4.heap.objs.size]) ht.typeIs PyProof.Rows.slot_tuple_getitem.lookup ?_ (by with_unfolding_all rfl)
      refine getItem_tuple_rev ht (Heap.IsSliceOf.new _ _ _ _) ?_ (by rw [List.size_toArray]; omega)
      exact ⟨.ref _, _, I5.laid (t' := s4.toks) (o := .tup xs.reverse) (fun b ob q => Heap.get?_push_of_some _ q) (Nat.le_refl _) ⟨by rw [List.length_reverse]; exact hz, _, r.reverse, IsTup.new _ _⟩, rfl, q _ (I5.hok.fresh (Nat.le_refl _))⟩
theorem d_rev (he : PE X a (TEv X.K fa)) : PE X (.Subscript a (.Slice none none (some (.UnaryOp .USub (.Constant (.int 1) k p1) p2)) p3) pos) (TEv X.K (eUn gRev fa)) :=
  (pe_revA he).imp fun σ H Q h => tev_un (r := fun x H1 Q => ∃ a xs, x = .ref a ∧ ((SqL X.K H1 a xs ∧ ∀ p, H1 p = none → Q (.ref p) (upd H1 p (.lst xs.reverse))) ∨ (SqT X.K H1 a xs ∧ ∀ p, H1 p = none → Q (.ref p) (upd H1 p (.tup xs.reverse))))) (fun S H x d z Q sh rx eg q => by
    unfold gRev at eg
    split at eg
    · cases eg
      cases rx with
      | tup h r => exact ⟨_, _, rfl, .inr ⟨sh.sqT h, fun p hp => q _ _ _ (Grow.add sh hp) (.tup (.inl (.inl Sx.add_at)) (r.rev.mono (Grow.add sh hp).le))⟩⟩
    · cases eg
      cases rx with
      | lst h r => exact ⟨_, _, rfl, .inl ⟨.inl (.inl (sh _ _ h)), fun p hp => q _ _ _ (Grow.add sh hp) (.lst Sx.add_at (r.rev.mono (Grow.add sh hp).le))⟩⟩
    · cases eg
      cases rx with
      | rdl h r => exact ⟨_, _, rfl, .inl ⟨sh.sqL h, fun p hp => q _ _ _ (Grow.add sh hp) (.lst Sx.add_at (r.rev.mono (Grow.add sh hp).le))⟩⟩
    · cases eg) h
end
end WS
namespace WS
open PySem PySem.Spec PyProof.Rows L2

/-! ## repr, where no dict is the table of modules -/
mutual
inductive Rq (h : Heap) : Value → PyData → Prop
  | none : Rq h .none .none
  | bool (b) : Rq h (.bool b) (.bool b)
  | int (i t) : Rq h (.int i t) (.int i)
  | str (x t) : Rq h (.str x t) (.str x)
  | list {a o vs n xs} : h.get? a = some o → o.cls = .type "list" → o.data = .seq vs n → RqL h vs.toList xs → Rq h (.ref a) (.list xs)
  | tuple {a o vs n xs} : h.get? a = some o → o.cls = .type "tuple" → o.data = .seq vs n → RqL h vs.toList xs → Rq h (.ref a) (.tuple xs)
  | dict {a o es n kvs} : h.get? a = some o → o.cls = .type "dict" → o.data = .dict es n → a ≠ sysModules → RqL h (es.toList.map (·.key)) (kvs.map (·.1)) → RqL h (es.toList.map (·.val)) (kvs.map (·.2)) → Rq h (.ref a) (.dict kvs)
inductive RqL (h : Heap) : List Value → List PyData → Prop
  | nil : RqL h [] []
  | cons {v vs d ds} : Rq h v d → RqL h vs ds → RqL h (v :: vs) (d :: ds)
end
mutual
theorem Rq.reads {h : Heap} : ∀ {v : Value} {d : PyData}, Rq h v d → ∃ as, Reads h v d as
  | _, _, .none => ⟨_, .none⟩
  | _, _, .bool b => ⟨_, .bool b⟩
  | _, _, .int i t => ⟨_, .int i t⟩
  | _, _, .str x t => ⟨_, .str x t⟩
  | _, _, .list h1 h2 h3 h4 => let ⟨_, r⟩ := RqL.reads h4; ⟨_, .list h1 h2 h3 r⟩
  | _, _, .tuple h1 h2 h3 h4 => let ⟨_, r⟩ := RqL.reads h4; ⟨_, .tuple h1 h2 h3 r⟩
  | _, _, .dict h1 h2 h3 _ h4 h5 => let ⟨_, r⟩ := RqL.reads h4; let ⟨_, q⟩ := RqL.reads h5; ⟨_, .dict h1 h2 h3 r q⟩
theorem RqL.reads {h : Heap} : ∀ {v : List Value} {d : List PyData}, RqL h v d → ∃ as, ReadsAll h v d as
  | _, _, .nil => ⟨_, .nil⟩
  | _, _, .cons h t => let ⟨_, r⟩ := Rq.reads h; let ⟨_, q⟩ := RqL.reads t; ⟨_, .cons r q⟩
end
section
variable {prog : Program} {w : World} {h₀ : Heap}
mutual
theorem reprK_rq : ∀ {v : Value} {d : PyData}, Rq h₀ v d → d.showable = true → d.shown.length ≤ sizeLine → ∃ bs, ReadAtMost h₀ d.depth bs ∧ ReprK prog w bs h₀ d.depth v d.shown
  | _, _, .none, _, _ => ⟨[], (fun _ h => nomatch h), by simp only [PyData.shown]; exact .of_is ReprIs.none _ _ _⟩
  | _, _, .bool b, _, _ => ⟨[], (fun _ h => nomatch h), by simp only [PyData.shown]; exact .of_is (ReprIs.bool b) _ _ _⟩
  | _, _, .int i t, hs, _ => ⟨[], (fun _ h => nomatch h), by simp only [PyData.shown]; exact .of_is (ReprIs.int t (by simpa [PyData.showable] using hs)) _ _ _⟩
  | _, _, .str x t, _, hz => ⟨[], (fun _ h => nomatch h), by simp only [PyData.shown]; exact .of_is (ReprIs.str x t (by simpa only [PyData.shown] using hz)) _ _ _⟩
  | _, _, .list (a := a) (vs := vs) (xs := xs) h1 h2 h3 h4, hs, hz => by
    have hz' : (listText (PyData.shownAll xs)).length ≤ sizeLine := by simpa only [PyData.shown] using hz
    obtain ⟨bs, hb, hk⟩ := reprAllK_rq h4 (by simpa [PyData.showable] using hs) (fun t ht => Nat.le_trans (listText_mem_le ht) hz')
    obtain ⟨_, r4⟩ := RqL.reads h4
    have r : Reads h₀ (.ref a) (.list xs) _ := .list h1 h2 h3 r4
    have hna : a ∉ bs := not_mem_of_deeper r (by simp only [PyData.depth]; omega) hb
    refine ⟨a :: bs, ReadAtMost.cons r (by simp only [PyData.depth]; omega) hb, ?_⟩
    simp only [PyData.depth, PyData.shown]
    obtain ⟨l⟩ := vs
    cases l with
    | nil =>
      have h4' : RqL h₀ [] xs := h4
      cases h4'
      simp only [PyData.shownAll, listText_nil]
      exact ReprK.listEmpty h1 h2 h3
    | cons x l => exact ReprK.list h1 h2 h3 hna (by simpa using hk.length_eq) (fun i y e => hk.item i y (by simpa using e))
  | _, _, .tuple (a := a) (xs := xs) h1 h2 h3 h4, hs, hz => by
    have hz' : (tupleText (PyData.shownAll xs)).length ≤ sizeLine := by simpa only [PyData.shown] using hz
    obtain ⟨bs, hb, hk⟩ := reprAllK_rq h4 (by simpa [PyData.showable] using hs) (fun t ht => Nat.le_trans (tupleText_mem_le ht) hz')
    obtain ⟨_, r4⟩ := RqL.reads h4
    have r : Reads h₀ (.ref a) (.tuple xs) _ := .tuple h1 h2 h3 r4
    have hna : a ∉ bs := not_mem_of_deeper r (by simp only [PyData.depth]; omega) hb
    refine ⟨a :: bs, ReadAtMost.cons r (by simp only [PyData.depth]; omega) hb, ?_⟩
    simp only [PyData.depth, PyData.shown]
    exact ReprK.tuple h1 h2 h3 hna hk
  | _, _, .dict (a := a) (es := es) (kvs := kvs) h1 h2 h3 hne h4 h5, hs, hz => by
    have hz' : (dictText (PyData.shownKv kvs)).length ≤ sizeLine := by simpa only [PyData.shown] using hz
    obtain ⟨hs1, hs2⟩ := PyData.showableKv_split kvs (by simpa [PyData.showable] using hs)
    obtain ⟨b1, hb1, k1⟩ := reprAllK_rq h4 hs1 (fun t ht => let ⟨p, hp, hl⟩ := PyData.shownKv_key_le kvs t ht; Nat.le_trans hl (Nat.le_trans (dictText_mem_le hp) hz'))
    obtain ⟨b2, hb2, k2⟩ := reprAllK_rq h5 hs2 (fun t ht => let ⟨p, hp, hl⟩ := PyData.shownKv_val_le kvs t ht; Nat.le_trans hl (Nat.le_trans (dictText_mem_le hp) hz'))
    obtain ⟨_, r4⟩ := RqL.reads h4
    obtain ⟨_, r5⟩ := RqL.reads h5
    have r : Reads h₀ (.ref a) (.dict kvs) _ := .dict h1 h2 h3 r4 r5
    have hb : ReadAtMost h₀ (PyData.depthKv kvs) (b1 ++ b2) := (hb1.mono (PyData.depthAll_keys_le kvs)).append (hb2.mono (PyData.depthAll_vals_le kvs))
    have hna : a ∉ b1 ++ b2 := not_mem_of_deeper r (by simp only [PyData.depth]; omega) hb
    have hsys : (a == sysModules) = false := beq_eq_false_iff_ne.mpr hne
    refine ⟨a :: (b1 ++ b2), ReadAtMost.cons r (by simp only [PyData.depth]; omega) hb, ?_⟩
    simp only [PyData.depth, PyData.shown, PyData.shownKv_eq]
    exact ReprK.dict h1 h2 h3 hsys hna (ReprEntriesK.of_two es.toList _ _
      (k1.more_le (fun b hb => List.mem_append_left _ hb) (PyData.depthAll_keys_le kvs)) (k2.more_le (fun b hb => List.mem_append_right _ hb) (PyData.depthAll_vals_le kvs)))
theorem reprAllK_rq : ∀ {vs : List Value} {ds : List PyData}, RqL h₀ vs ds → PyData.showableAll ds = true → (∀ t ∈ PyData.shownAll ds, t.length ≤ sizeLine) →
    ∃ bs, ReadAtMost h₀ (PyData.depthAll ds) bs ∧ ReprAllK prog w bs h₀ (PyData.depthAll ds) vs (PyData.shownAll ds)
  | _, _, .nil, _, _ => ⟨[], (fun _ h => nomatch h), by simp only [PyData.shownAll]; exact .nil⟩
  | _, _, .cons (d := d) (ds := ds) r rs, hs, hz => by
    have hs' : d.showable = true ∧ PyData.showableAll ds = true := by simpa [PyData.showableAll] using hs
    obtain ⟨b1, hb1, k1⟩ := reprK_rq r hs'.1 (hz _ (by simp only [PyData.shownAll]; exact List.mem_cons_self ..))
    obtain ⟨b2, hb2, k2⟩ := reprAllK_rq rs hs'.2 (fun t ht => hz t (by simp only [PyData.shownAll]; exact List.mem_cons_of_mem _ ht))
    refine ⟨b1 ++ b2, ?_, ?_⟩
    · intro b hm
      simp only [PyData.depthAll]
      rcases List.mem_append.mp hm with hm | hm
      · obtain ⟨d', as', r', hd'⟩ := hb1 b hm
        exact ⟨d', as', r', Nat.le_trans hd' (Nat.le_max_left _ _)⟩
      · obtain ⟨d', as', r', hd'⟩ := hb2 b hm
        exact ⟨d', as', r', Nat.le_trans hd' (Nat.le_max_right _ _)⟩
    · simp only [PyData.depthAll, PyData.shownAll]
      exact .cons ((k1.more fun b hb => List.mem_append_left _ hb).level_le (Nat.le_max_left _ _)) (k2.more_le (fun b hb => List.mem_append_right _ hb) (Nat.le_max_right _ _))
end
variable {a : Addr} {d : PyData}
theorem shows_rq (r : Rq h₀ (.ref a) d) (hs : d.showable = true) (hsz : d.shown.length ≤ sizeLine) : ∃ T idr, ShowsBy prog w h₀ a d T idr := by
  cases r with
  | list h1 h2 h3 h4 =>
    rename_i o vs n xs
    have hz' : (listText (PyData.shownAll xs)).length ≤ sizeLine := by simpa only [PyData.shown] using hsz
    obtain ⟨bs, hb, hk⟩ := reprAllK_rq (prog := prog) (w := w) h4 (by simpa [PyData.showable] using hs) (fun t ht => Nat.le_trans (listText_mem_le ht) hz')
    obtain ⟨_, r4⟩ := RqL.reads h4
    have hna : a ∉ bs := not_mem_of_deeper (.list h1 h2 h3 r4) (by simp only [PyData.depth]; omega) hb
    refine ⟨"list", "list.__repr__", F.slot_list_repr.toG, F.slot_list_str, F.slot_list_format, fun s hk0 => ⟨o, hk0 _ _ h1, h2⟩, fun A E s Q hg hu hk0 hQ => ?_⟩
    simp only [PyData.depth] at hu
    simp only [PyData.shown] at hQ
    obtain ⟨l⟩ := vs
    cases l with
    | nil =>
      have h4' : RqL h₀ [] xs := h4
      cases h4'
      simp only [PyData.shownAll, listText_nil] at hQ
      exact call_list_repr_empty ⟨o, hk0 _ _ h1, h2⟩ (hk0 _ _ h1) h3 (hQ s.heap _ _ fun _ _ e => e)
    | cons x l =>
      exact call_list_reprK h1 h2 h3 hna (by simpa using hk.length_eq) (fun i y e => hk.item i y (by simpa using e)) hg (fun b _ => Clear.nil b) hu hk0 hQ hz'
  | tuple h1 h2 h3 h4 =>
    rename_i o vs n xs
    have hz' : (tupleText (PyData.shownAll xs)).length ≤ sizeLine := by simpa only [PyData.shown] using hsz
    obtain ⟨bs, hb, hk⟩ := reprAllK_rq (prog := prog) (w := w) h4 (by simpa [PyData.showable] using hs) (fun t ht => Nat.le_trans (tupleText_mem_le ht) hz')
    obtain ⟨_, r4⟩ := RqL.reads h4
    have hna : a ∉ bs := not_mem_of_deeper (.tuple h1 h2 h3 r4) (by simp only [PyData.depth]; omega) hb
    refine ⟨"tuple", "tuple.__repr__", F.slot_tuple_repr, F.slot_tuple_str, F.slot_tuple_format, fun s hk0 => ⟨o, hk0 _ _ h1, h2⟩, fun A E s Q hg hu hk0 hQ => ?_⟩
    simp only [PyData.depth] at hu
    simp only [PyData.shown] at hQ
    exact call_tuple_reprK h1 h2 h3 hna hk hg (fun b _ => Clear.nil b) hu hk0 hQ hz'
  | dict h1 h2 h3 hne h4 h5 =>
    rename_i o es n kvs
    have hz' : (dictText (PyData.shownKv kvs)).length ≤ sizeLine := by simpa only [PyData.shown] using hsz
    obtain ⟨hs1, hs2⟩ := PyData.showableKv_split kvs (by simpa [PyData.showable] using hs)
    obtain ⟨b1, hb1, k1⟩ := reprAllK_rq (prog := prog) (w := w) h4 hs1 (fun t ht => let ⟨p, hp, hl⟩ := PyData.shownKv_key_le kvs t ht; Nat.le_trans hl (Nat.le_trans (dictText_mem_le hp) hz'))
    obtain ⟨b2, hb2, k2⟩ := reprAllK_rq (prog := prog) (w := w) h5 hs2 (fun t ht => let ⟨p, hp, hl⟩ := PyData.shownKv_val_le kvs t ht; Nat.le_trans hl (Nat.le_trans (dictText_mem_le hp) hz'))
    obtain ⟨_, r4⟩ := RqL.reads h4
    obtain ⟨_, r5⟩ := RqL.reads h5
    have hb : ReadAtMost h₀ (PyData.depthKv kvs) (b1 ++ b2) := (hb1.mono (PyData.depthAll_keys_le kvs)).append (hb2.mono (PyData.depthAll_vals_le kvs))
    have hna : a ∉ b1 ++ b2 := not_mem_of_deeper (.dict h1 h2 h3 r4 r5) (by simp only [PyData.depth]; omega) hb
    have hsys : (a == sysModules) = false := beq_eq_false_iff_ne.mpr hne
    refine ⟨"dict", "dict.__repr__", F.slot_dict_repr, F.slot_dict_str, F.slot_dict_format, fun s hk0 => ⟨o, hk0 _ _ h1, h2⟩, fun A E s Q hg hu hk0 hQ => ?_⟩
    simp only [PyData.depth] at hu
    simp only [PyData.shown, PyData.shownKv_eq] at hQ
    exact call_dict_reprK h1 h2 h3 hsys hna (ReprEntriesK.of_two es.toList _ _
      (k1.more_le (fun b hb => List.mem_append_left _ hb) (PyData.depthAll_keys_le kvs)) (k2.more_le (fun b hb => List.mem_append_right _ hb) (PyData.depthAll_vals_le kvs))) hg (fun b _ => Clear.nil b) hu hk0 hQ (by rw [← PyData.shownKv_eq]; exact hz')
variable {A : Around} {E : Value → Shared → Prop} {s : Shared} {Q : Value → Shared → Prop}
theorem repr_rq (r : Rq h₀ (.ref a) d) (hs : d.showable = true) (hg : A.guards = some []) (hu : A.units + (d.depth + 1) < cLine) (hk0 : ∀ b o, h₀.get? b = some o → s.heap.get? b = some o)
    (hQ : ∀ h' u tk, (∀ b o, s.heap.get? b = some o → h'.get? b = some o) → Q (.str d.shown u) { s with heap := h', toks := tk })
    (hsz : d.shown.length ≤ sizeLine) : wpAny (model prog w) A (call (.builtin "repr") [.ref a]) Q E s := by
  obtain ⟨T, idr, S⟩ := shows_rq (prog := prog) (w := w) r hs hsz
  exact call_repr_slot (by omega) (S.typeIs s hk0) S.slotRepr (S.call A.in1 E s _ hg (by show A.units + 1 + d.depth < cLine; omega) hk0 fun h' u tk hk => ⟨_, _, rfl, hQ h' u tk hk⟩)
end
end WS
namespace WS
open PySem PySem.Spec PyProof.Rows L2

/-! ## built-in functions and classes -/
def gLen : List D → Option D
  | [.str x] => if x.length ≤ sizeLine then some (.int x.length) else none
  | [.tup xs] => some (.int xs.length)
  | [.lst xs] => some (.int xs.length)
  | [.rdl xs] => some (.int xs.length)
  | _ => none
def gTuple : List D → Option D
  | [.lst xs] => some (.tup xs)
  | [.rdl xs] => some (.tup xs)
  | [.tup xs] => some (.tup xs)
  | _ => none
def gList : List D → Option D
  | [.lst xs] => some (.lst xs)
  | [.rdl xs] => some (.lst xs)
  | [.tup xs] => some (.lst xs)
  | _ => none
def gInt : List D → Option D
  | [.int i] => some (.int i)
  | [.bl k] => some (.int (if k then 1 else 0))
  | _ => none
def gStr : List D → Option D
  | [.int i] => if i.natAbs.log2 < 1920 then some (.str (toString i : String)) else none
  | [.bl b] => some (.str (if b then ("True" : Str) else ("False" : Str)))
  | _ => none
def gMin2 : List D → Option D
  | [.int i, .int j] => some (.int (if j < i then j else i))
  | _ => none
def gMax2 : List D → Option D
  | [.int i, .int j] => some (.int (if j > i then j else i))
  | _ => none
def intsOf : List D → Option (List Int)
  | [] => some []
  | .int i :: r => (intsOf r).map (i :: ·)
  | _ => none
def blsOf : List D → Option (List Bool)
  | [] => some []
  | .bl i :: r => (blsOf r).map (i :: ·)
  | _ => none
def gSum : List D → Option D
  | [.lst xs] => (intsOf xs).map fun ns => .int ns.sum
  | [.rdl xs] => (intsOf xs).map fun ns => .int ns.sum
  | _ => none
def gAll : List D → Option D
  | [.lst xs] => (blsOf xs).map fun bs => .bl (bs.all id)
  | _ => none
def gAny : List D → Option D
  | [.lst xs] => (blsOf xs).map fun bs => .bl (bs.any id)
  | _ => none
def tyn : D → Option String
  | .non => some "NoneType"
  | .bl _ => some "bool"
  | .int _ => some "int"
  | .str _ => some "str"
  | .tup _ => some "tuple"
  | .lst _ => some "list"
  | .dct _ _ => some "dict"
  | _ => none
def gIsI : List D → Option D
  | [d, .ty T] => (tyn d).bind fun a => (kitB a T).map .bl
  | _ => none

section
variable {K : PySem.W.Frag} {S : Sx}
theorem intsOf_vs : ∀ {vs : List V} {ds : List D} {ns : List Int}, RpL K S vs ds → intsOf ds = some ns → vs = ns.map V.int
  | _, _, _, .nil, e => by cases e; rfl
  | _, d :: ds, ns, .cons h r, e => by
    cases d with
    | int i =>
      unfold intsOf at e
      cases q : intsOf ds with
      | none => rw [q] at e; cases e
      | some m =>
        rw [q] at e
        cases e
        cases h
        rw [intsOf_vs r q]; rfl
    | _ => cases e
theorem blsOf_vs : ∀ {vs : List V} {ds : List D} {ns : List Bool}, RpL K S vs ds → blsOf ds = some ns → vs = ns.map V.bl
  | _, _, _, .nil, e => by cases e; rfl
  | _, d :: ds, ns, .cons h r, e => by
    cases d with
    | bl i =>
      unfold blsOf at e
      cases q : blsOf ds with
      | none => rw [q] at e; cases e
      | some m =>
        rw [q] at e
        cases e
        cases h
        rw [blsOf_vs r q]; rfl
    | _ => cases e
theorem one_of {vs : List V} {d : D} (r : RpL K S vs [d]) : ∃ v, vs = [v] ∧ Rp K S v d := by
  cases r with
  | cons h t => cases t; exact ⟨_, rfl, h⟩
theorem two_of {vs : List V} {d e : D} (r : RpL K S vs [d, e]) : ∃ v u, vs = [v, u] ∧ Rp K S v d ∧ Rp K S u e := by
  cases r with
  | cons h t =>
    obtain ⟨u, rfl, q⟩ := one_of t
    exact ⟨_, _, rfl, h, q⟩
end

section
variable {X : Cx} {e : Expr} {fa : E} {pos : Pos}
theorem d_type {x : Str} {n : String} (hg : Gl X x) (hm : X.mg x = none) (hv : bootBuiltins x = some (.type n)) (hn : x ≠ "__name__" := by decide) (hd : (x == ("__debug__" : Str)) = false := by decide) : PE X (.Name x pos) (TEv X.K (eC (.ty n))) :=
  (pe_bltn (v := .ty n) hg hm hv rfl hn hd).imp fun _ _ _ h => tev_c (fun _ => .ty n) h
theorem x_len : CallX X (.builtin "len") gLen := by
  refine ⟨_, call_len, fun S H xs ds z Q sh r eg q => ?_⟩
  unfold gLen at eg
  split at eg
  · split at eg
    case isFalse => cases eg
    rename_i hl
    cases eg
    obtain ⟨v, rfl, rv⟩ := one_of r
    cases rv
    exact ⟨_, _, rfl, ⟨hl, rfl⟩, q _ S H (Grow.refl sh) (.int _)⟩
  · cases eg
    obtain ⟨v, rfl, rv⟩ := one_of r
    cases rv with
    | tup h r => exact ⟨_, _, rfl, .inr ⟨_, sh.sqT h, rfl⟩, q _ S H (Grow.refl sh) (by rw [r.length]; exact .int _)⟩
  · cases eg
    obtain ⟨v, rfl, rv⟩ := one_of r
    cases rv with
    | lst h r => exact ⟨_, _, rfl, .inl ⟨_, .inl (.inl (sh _ _ h)), rfl⟩, q _ S H (Grow.refl sh) (by rw [r.length]; exact .int _)⟩
  · cases eg
    obtain ⟨v, rfl, rv⟩ := one_of r
    cases rv with
    | rdl h r => exact ⟨_, _, rfl, .inl ⟨_, sh.sqL h, rfl⟩, q _ S H (Grow.refl sh) (by rw [r.length]; exact .int _)⟩
  · cases eg
theorem x_tuple : CallX X (.type "tuple") gTuple := by
  refine ⟨_, call_tuple_of, fun S H xs ds z Q sh r eg q => ?_⟩
  unfold gTuple at eg
  split at eg
  · cases eg
    obtain ⟨v, rfl, rv⟩ := one_of r
    cases rv with
    | lst h r => exact ⟨_, _, rfl, .inl ⟨.inl (.inl (sh _ _ h)), fun l hl => q _ _ _ (Grow.add sh hl) (.tup (.inl (.inl Sx.add_at)) (r.mono (Grow.add sh hl).le))⟩⟩
  · cases eg
    obtain ⟨v, rfl, rv⟩ := one_of r
    cases rv with
    | rdl h r => exact ⟨_, _, rfl, .inl ⟨sh.sqL h, fun l hl => q _ _ _ (Grow.add sh hl) (.tup (.inl (.inl Sx.add_at)) (r.mono (Grow.add sh hl).le))⟩⟩
  · cases eg
    obtain ⟨v, rfl, rv⟩ := one_of r
    cases rv with
    | tup h r => exact ⟨_, _, rfl, .inr ⟨sh.sqT h, q _ S H (Grow.refl sh) (.tup h r)⟩⟩
  · cases eg
theorem x_list : CallX X (.type "list") gList := by
  refine ⟨_, call_list_of, fun S H xs ds z Q sh r eg q => ?_⟩
  unfold gList at eg
  split at eg
  · cases eg
    obtain ⟨v, rfl, rv⟩ := one_of r
    cases rv with
    | lst h r => exact ⟨_, _, rfl, .inl (.inl (.inl (sh _ _ h))), fun l hl => q _ _ _ (Grow.add sh hl) (.lst Sx.add_at (r.mono (Grow.add sh hl).le))⟩
  · cases eg
    obtain ⟨v, rfl, rv⟩ := one_of r
    cases rv with
    | rdl h r => exact ⟨_, _, rfl, .inl (sh.sqL h), fun l hl => q _ _ _ (Grow.add sh hl) (.lst Sx.add_at (r.mono (Grow.add sh hl).le))⟩
  · cases eg
    obtain ⟨v, rfl, rv⟩ := one_of r
    cases rv with
    | tup h r => exact ⟨_, _, rfl, .inr (sh.sqT h), fun l hl => q _ _ _ (Grow.add sh hl) (.lst Sx.add_at (r.mono (Grow.add sh hl).le))⟩
  · cases eg
theorem x_int : CallX X (.type "int") gInt := by
  refine ⟨_, call_int1, fun S H xs ds z Q sh r eg q => ?_⟩
  unfold gInt at eg
  split at eg
  · cases eg
    obtain ⟨v, rfl, rv⟩ := one_of r
    cases rv
    exact .inl ⟨_, rfl, q _ S H (Grow.refl sh) (.int _)⟩
  · cases eg
    obtain ⟨v, rfl, rv⟩ := one_of r
    cases rv
    exact .inr ⟨_, rfl, q _ S H (Grow.refl sh) (.int _)⟩
  · cases eg
theorem call_str_bool : CallR X (.type "str") (fun xs H Q => ∃ b : Bool, xs = [.bl b] ∧ Q (.str (if b then ("True" : Str) else ("False" : Str))) H) := by
  intro pins s σ H xs us Q I r h
  obtain ⟨b, rfl, q⟩ := h
  cases r with
  | cons r1 r2 =>
    cases r2
    cases r1
    exact PySem.P.str_of_bool ⟨.str _, H, I.tok _, ⟨_, rfl⟩, q⟩
theorem x_str : CallX X (.type "str") gStr := by
  refine ⟨_, call_str_int.or call_str_bool, fun S H xs ds z Q sh r eg q => ?_⟩
  unfold gStr at eg
  split at eg
  · split at eg
    case isFalse => cases eg
    rename_i hl
    cases eg
    obtain ⟨v, rfl, rv⟩ := one_of r
    cases rv
    exact .inl ⟨_, rfl, hl, q _ S H (Grow.refl sh) (.str _)⟩
  · cases eg
    obtain ⟨v, rfl, rv⟩ := one_of r
    cases rv
    exact .inr ⟨_, rfl, q _ S H (Grow.refl sh) (.str _)⟩
  · cases eg
theorem x_min2 (hc : X.calm = true) : CallX X (.builtin "min") gMin2 := by
  refine ⟨_, call_min2 hc, fun S H xs ds z Q sh r eg q => ?_⟩
  unfold gMin2 at eg
  split at eg
  case h_2 => cases eg
  cases eg
  obtain ⟨v, u, rfl, rv, ru⟩ := two_of r
  cases rv
  cases ru
  exact ⟨_, _, rfl, q _ S H (Grow.refl sh) (.int _)⟩
theorem x_sum (hc : X.calm = true) : CallX X (.builtin "sum") gSum := by
  refine ⟨_, cr_sum hc, fun S H xs ds z Q sh r eg q => ?_⟩
  unfold gSum at eg
  split at eg
  · rename_i l
    cases h : intsOf l with
    | none => rw [h] at eg; cases eg
    | some ns =>
      rw [h] at eg
      cases eg
      obtain ⟨v, rfl, rv⟩ := one_of r
      cases rv with
      | lst h1 r => exact ⟨_, ns, rfl, by rw [← intsOf_vs r h]; exact .inl (.inl (sh _ _ h1)), q _ S H (Grow.refl sh) (.int _)⟩
  · rename_i l
    cases h : intsOf l with
    | none => rw [h] at eg; cases eg
    | some ns =>
      rw [h] at eg
      cases eg
      obtain ⟨v, rfl, rv⟩ := one_of r
      cases rv with
      | rdl h1 r => exact ⟨_, ns, rfl, by rw [← intsOf_vs r h]; exact sh.sqL h1, q _ S H (Grow.refl sh) (.int _)⟩
  · cases eg
theorem x_all (hc : X.calm = true) : CallX X (.builtin "all") gAll := by
  refine ⟨_, cr_all hc, fun S H xs ds z Q sh r eg q => ?_⟩
  unfold gAll at eg
  split at eg
  case h_2 => cases eg
  rename_i l
  cases h : blsOf l with
  | none => rw [h] at eg; cases eg
  | some ns =>
    rw [h] at eg
    cases eg
    obtain ⟨v, rfl, rv⟩ := one_of r
    cases rv with
    | lst h1 r => exact ⟨_, ns, rfl, by rw [← blsOf_vs r h]; exact .inl (.inl (sh _ _ h1)), q _ S H (Grow.refl sh) (.bl _)⟩
theorem tyx {K : PySem.W.Frag} {S : Sx} {H : Hp} (sh : Sub S.hp H) {v : V} {d : D} {a : String} (r : Rp K S v d) (h : tyn d = some a) : TyX K H v (.type a) := by
  cases r with
  | non => cases h; exact .base .non
  | bl b => cases h; exact .base (.bl b)
  | int i => cases h; exact .base (.int i)
  | str x => cases h; exact .base (.str x)
  | tup hs _ =>
    cases h
    rcases sh.sqT hs with (q | ⟨o, q⟩) | ⟨o, its, n, h1, h2, _⟩
    · exact .base (.tup q)
    · exact .fTuple q
    · exact .kTuple h1 h2
  | lst hs _ => cases h; exact .base (.lst (sh _ _ hs))
  | rdl hs _ => cases h
  | dct hs _ _ _ =>
    cases h
    rcases sh.rd hs with q | ⟨o, q⟩
    · exact .base (.dK q)
    · exact .fDict q
  | ins _ _ _ _ _ _ => cases h
  | exc _ _ _ _ _ _ _ => cases h
  | exc0 _ _ _ => cases h
  | ty n => cases h
  | obj a => cases h
  | deck _ => cases h
theorem x_isi : CallX X (.builtin "isinstance") gIsI := by
  refine ⟨_, call_isi, fun S H xs ds z Q sh r eg q => ?_⟩
  unfold gIsI at eg
  split at eg
  case h_2 => cases eg
  rename_i d T
  cases h : tyn d with
  | none => rw [h] at eg; cases eg
  | some a =>
    rw [h] at eg
    simp only [Option.bind_some] at eg
    cases hk : kitB a T with
    | none => rw [hk] at eg; cases eg
    | some b =>
      rw [hk] at eg
      cases eg
      obtain ⟨v, u, rfl, rv, ru⟩ := two_of r
      cases ru
      exact ⟨_, _, .type a, .type T, b, rfl, .ty T, tyx sh rv h, kit_ty hk, q _ S H (Grow.refl sh) (.bl _)⟩
end

/-! ## repr -/
def keyP : Key → PyData
  | .inl i => .int i
  | .inr x => .str x
mutual
def toR : D → Option PyData
  | .non => some .none
  | .bl b => some (.bool b)
  | .int i => some (.int i)
  | .str x => some (.str x)
  | .tup xs => (toRs xs).map .tuple
  | .lst xs => (toRs xs).map .list
  | .dct ks vs => if ks.length = vs.length then (toRs vs).map fun ps => .dict ((ks.map keyP).zip ps) else none
  | _ => none
def toRs : List D → Option (List PyData)
  | [] => some []
  | x :: r => (toR x).bind fun p => (toRs r).map fun q => p :: q
end
theorem toRs_len : ∀ {ds : List D} {ps : List PyData}, toRs ds = some ps → ps.length = ds.length
  | [], ps, e => by unfold toRs at e; cases e; rfl
  | x :: r, ps, e => by
    unfold toRs at e
    cases q : toR x with
    | none => rw [q] at e; cases e
    | some a =>
      cases q2 : toRs r with
      | none => rw [q, q2] at e; cases e
      | some b =>
        rw [q, q2] at e
        cases e
        simp [toRs_len q2]
def gRepr : List D → Option D
  | [d] => (toR d).bind fun p => if p.showable = true ∧ p.depth ≤ 60 ∧ p.shown.length ≤ sizeLine then some (.str p.shown) else none
  | _ => none
section
variable {X : Cx} {pins : List (Addr × Obj)} {σ : L2.St} {H : Hp} {s : Shared} {S : Sx}
theorem keys_rq {h : Heap} {P : Program} {w : World} : ∀ {es : List DictEntry} {vs : List (Key × Value)} {ps : List PyData}, Pairs (mixKind P w) es vs → ps.length = vs.length → RqL h (es.map (·.key)) ((((vs.map (·.1)).map keyP).zip ps).map (·.1))
  | _, _, [], .nil, _ => .nil
  | e :: es, kv :: vs, p :: ps, .cons h1 h2 t, hl => by
    refine .cons ?_ (keys_rq t (by simpa using hl))
    show Rq h e.key (keyP kv.1)
    rcases keyIs_shape h1 with ⟨i, tk, a, b⟩ | ⟨x, tk, a, b⟩
    · rw [a, b]; exact .int i tk
    · rw [a, b]; exact .str x tk
  | _ :: _, _ :: _, [], .cons _ _ _, hl => by simp at hl
  | [], [], p :: ps, .nil, hl => by simp at hl
theorem vals_of_pairs {P : Program} {w : World} : ∀ {es : List DictEntry} {vs : List (Key × Value)}, Pairs (mixKind P w) es vs → es.map (·.val) = vs.map (·.2)
  | _, _, .nil => rfl
  | _, _, .cons _ h t => by simp only [List.map_cons, h, vals_of_pairs t]
theorem zip_snd {α β : Type} : ∀ {as : List α} {bs : List β}, bs.length ≤ as.length → (as.zip bs).map (·.2) = bs
  | _, [], _ => by simp
  | a :: as, b :: bs, h => by simp only [List.zip_cons_cons, List.map_cons]; rw [zip_snd (by simpa using h)]
theorem kv_vals : ∀ {kvs : List (Key × V)} {vs : List (Key × Value)}, KV kvs vs → Vals (kvs.map (·.2)) (vs.map (·.2)) ∧ kvs.map (·.1) = vs.map (·.1)
  | _, _, .nil => ⟨.nil, rfl⟩
  | _, _, .cons h t => ⟨.cons h.2 (kv_vals t).1, by simp only [List.map_cons, h.1, (kv_vals t).2]⟩
mutual
theorem toR_reads (I : Inv X pins σ H s) (sh : Sub S.hp H) : ∀ {v : V} {d : D} {u : Value} {p : PyData}, Rp X.K S v d → RelV v u → toR d = some p → Rq s.heap u p
  | _, _, _, _, .non, r, e => by unfold toR at e; cases e; cases r; exact .none
  | _, _, _, _, .bl b, r, e => by unfold toR at e; cases e; cases r; exact .bool b
  | _, _, _, _, .int i, r, e => by unfold toR at e; cases e; obtain ⟨t, rfl⟩ := r; exact .int i t
  | _, _, _, _, .str x, r, e => by unfold toR at e; cases e; obtain ⟨t, rfl⟩ := r; exact .str x t
  | _, .tup ds, _, p, .tup h rr, r, e => by
    unfold toR at e
    cases q : toRs ds with
    | none => rw [q] at e; cases e
    | some ps =>
      rw [q] at e
      cases e
      cases r
      obtain ⟨its, rv, ⟨o, ho, hc, n, hd⟩, _⟩ := I.tuple (sh.sqT h)
      exact .tuple ho hc hd (toRs_reads I sh rr rv q)
  | _, .lst ds, _, p, .lst h rr, r, e => by
    unfold toR at e
    cases q : toRs ds with
    | none => rw [q] at e; cases e
    | some ps =>
      rw [q] at e
      cases e
      cases r
      obtain ⟨its, rv, ⟨o, n, ho, hc, _, hd⟩, _⟩ := I.list (.inl (.inl (sh _ _ h)))
      exact .list ho hc hd (toRs_reads I sh rr rv q)
  | _, .dct ks ds, _, p, .dct h a b rr, r, e => by
    unfold toR at e
    split at e
    case isFalse => cases e
    rename_i hlen
    cases q : toRs ds with
    | none => rw [q] at e; cases e
    | some ps =>
      rw [q] at e
      cases e
      cases r
      obtain ⟨_, hsys, vs, kv, o, es, ep, h1, h2, h3, _, h5, _⟩ := dk_rd I.hok (sh.rd h)
      obtain ⟨hv, hk⟩ := kv_vals kv
      have hvl : ds.length = vs.length := by rw [← hlen, ← a, hk, List.length_map]
      refine .dict h1 h2.1 h3 (fun z => by rw [z] at hsys; simp at hsys) ?_ ?_
      · rw [← a, hk]
        exact keys_rq h5 (by rw [toRs_len q]; exact hvl)
      · rw [zip_snd (by rw [List.length_map, toRs_len q, hlen]; exact Nat.le_refl _), vals_of_pairs h5]
        exact toRs_reads I sh rr (by rw [← b]; exact hv) q
  | _, .rdl _, _, _, .rdl _ _, _, e => by unfold toR at e; cases e
  | _, _, _, _, .ins _ _ _ _ _ _, _, e => by unfold toR at e; cases e
  | _, _, _, _, .exc _ _ _ _ _ _ _, _, e => by unfold toR at e; cases e
  | _, _, _, _, .exc0 _ _ _, _, e => by unfold toR at e; cases e
  | _, _, _, _, .ty _, _, e => by unfold toR at e; cases e
  | _, _, _, _, .obj _, _, e => by unfold toR at e; cases e
  | _, _, _, _, .deck _, _, e => by unfold toR at e; cases e
theorem toRs_reads (I : Inv X pins σ H s) (sh : Sub S.hp H) : ∀ {vs : List V} {ds : List D} {us : List Value} {ps : List PyData}, RpL X.K S vs ds → Vals vs us → toRs ds = some ps → RqL s.heap us ps
  | _, _, _, _, .nil, r, e => by unfold toRs at e; cases e; cases r; exact .nil
  | _, d :: ds, _, p, .cons h t, r, e => by
    unfold toRs at e
    cases q : toR d with
    | none => rw [q] at e; cases e
    | some a =>
      cases q2 : toRs ds with
      | none => rw [q, q2] at e; cases e
      | some b =>
        rw [q, q2] at e
        cases e
        cases r with
        | cons r1 r2 => exact .cons (toR_reads I sh h r1 q) (toRs_reads I sh t r2 q2)
end
end
section
variable {X : Cx}
def rRepr (X : Cx) : List V → Hp → VK → Prop := fun xs H Q => ∃ v S d p, xs = [v] ∧ Sub (S : Sx).hp H ∧ Rp X.K S v d ∧ toR d = some p ∧ p.showable = true ∧ p.depth ≤ 60 ∧ p.shown.length ≤ sizeLine ∧ Q (.str p.shown) H
theorem call_reprD (hg : X.A.guards = some []) (hu : X.A.units + 100 < cLine) : CallR X (.builtin "repr") (rRepr X) := by
  intro pins s σ H xs us Q I r h
  obtain ⟨v, S, d, p, rfl, sh, rv, e, hsh, hd, hl, q⟩ := h
  cases r with
  | cons r1 r2 =>
    cases r2
    have done : ∀ tk, Q (.str p.shown) H → EP X pins σ Q (.str p.shown s.toks) { s with toks := tk } := fun tk q => ⟨.str _, H, I.tok _, ⟨_, rfl⟩, q⟩
    have go : ∀ a, RelV v (.ref a) → toR d = some p → wpAny (model X.prog X.w) X.A (call (.builtin "repr") [.ref a]) (EP X pins σ Q) X.xe s := fun a r1 e =>
      repr_rq (toR_reads I sh rv r1 e) hsh hg (by omega) (fun _ _ e => e) (fun h' u tk k => ⟨.str _, H, I.kept k, ⟨_, rfl⟩, q⟩) hl
    cases rv with
    | non => unfold toR at e; cases e; cases r1; exact PySem.P.repr_of_none (done _ q)
    | bl b => unfold toR at e; cases e; cases r1; exact PySem.P.repr_of_bool (done _ q)
    | int i =>
      unfold toR at e
      cases e
      obtain ⟨t, rfl⟩ := r1
      exact PySem.P.repr_of_int (by simpa [PyData.showable] using hsh) (done _ q)
    | str x => unfold toR at e; cases e; obtain ⟨t, rfl⟩ := r1; exact PySem.P.repr_of_str (done _ q) hl
    | tup h1 h2 => cases r1; exact go _ rfl e
    | lst h1 h2 => cases r1; exact go _ rfl e
    | dct h1 h2 h3 h4 => cases r1; exact go _ rfl e
    | rdl _ _ => unfold toR at e; cases e
    | ins _ _ _ _ _ _ => unfold toR at e; cases e
    | exc _ _ _ _ _ _ _ => unfold toR at e; cases e
    | exc0 _ _ _ => unfold toR at e; cases e
    | ty _ => unfold toR at e; cases e
    | obj _ => unfold toR at e; cases e
    | deck _ => unfold toR at e; cases e
theorem x_repr (hg : X.A.guards = some []) (hu : X.A.units + 100 < cLine) : CallX X (.builtin "repr") gRepr := by
  refine ⟨_, call_reprD hg hu, fun S H xs ds z Q sh r eg q => ?_⟩
  unfold gRepr at eg
  split at eg
  case h_2 => cases eg
  rename_i d
  cases h : toR d with
  | none => rw [h] at eg; cases eg
  | some p =>
    rw [h] at eg
    simp only [Option.bind_some] at eg
    split at eg
    case isFalse => cases eg
    rename_i c
    cases eg
    obtain ⟨v, rfl, rv⟩ := one_of r
    exact ⟨v, S, d, p, rfl, sh, rv, h, c.1, c.2.1, c.2.2, q _ S H (Grow.refl sh) (.str _)⟩
end
end WS
namespace WS
open PySem PySem.Spec PyProof.Rows L2
variable {W : WX}

/-! ## own lists -/
def sOwnL (i : Nat) (fs : EL) : SS := fun ρ k => (fs ρ k).bind fun x => if x.1.length ≤ sizeLine then some (.nx, x.2.1.set i (.own (.lst x.1)), x.2.2) else none
def sApp (i : Nat) (f : E) : SS := fun ρ k => match ρ[i]? with
  | some (.own (.lst _)) => (f ρ k).bind fun x => match x.2.1[i]? with
    | some (.own (.lst ds)) => if ds.length < sizeLine then some (.nx, x.2.1.set i (.own (.lst (ds ++ [x.1]))), x.2.2) else none
    | _ => none
  | _ => none
def sExt (i : Nat) (f : E) : SS := fun ρ k => match ρ[i]? with
  | some (.own (.lst _)) => (f ρ k).bind fun x => match x.2.1[i]?, x.1 with
    | some (.own (.lst ds)), .lst es => if ds.length + es.length ≤ sizeLine then some (.nx, x.2.1.set i (.own (.lst (ds ++ es))), x.2.2) else none
    | _, _ => none
  | _ => none
section
variable {K : PySem.W.Frag} {σ : L2.St} {H : Hp} {D' : Ends} {i : Nat}
theorem tsv_ownL {fs : EL} (h : TSv K W (sOwnL i fs) D' σ H) : tAsg (tLst (TAv K fs)) (gName i) D' σ H := by
  obtain ⟨S, F, ρ, dk, o, ρ', dk', R, e, q⟩ := h
  unfold sOwnL at e
  cases ea : fs ρ dk with
  | none => rw [ea] at e; cases e
  | some x =>
    obtain ⟨ds, ρ1, k1⟩ := x
    rw [ea] at e
    simp only [Option.bind_some] at e
    split at e
    case isFalse => cases e
    rename_i hl
    cases e
    refine ⟨S, F, ρ, dk, ds, ρ1, _, R, ea, fun vs H1 S1 l1 R1 rv => ⟨by rw [rv.length]; exact hl, fun p hp => ?_⟩⟩
    exact q _ _ S1 l1 (R1.putOwn (Sub.new hp) hp ⟨vs, upd_same, rv⟩)
theorem tsv_app {f : E} (h : TSv K W (sApp i f) D' σ H) : tDrop (tBM K "list" rAppend (tVar i) (tCons (TEv K f) tNil)) D' σ H := by
  obtain ⟨S, F, ρ, dk, o, ρ', dk', R, e, q⟩ := h
  unfold sApp at e
  split at e
  case h_2 => cases e
  rename_i d0 h0
  obtain ⟨p, hp, ⟨xs, hx, _⟩, _⟩ := R.env i _ h0
  cases ea : f ρ dk with
  | none => rw [ea] at e; cases e
  | some x =>
    obtain ⟨d, ρ1, k1⟩ := x
    rw [ea] at e
    simp only [Option.bind_some] at e
    split at e
    case h_2 => cases e
    rename_i ds h1
    split at e
    case isFalse => cases e
    rename_i hl
    cases e
    refine ⟨.ref p, hp, .inl ⟨rfl, _, .inl (.inl hx)⟩, S, F, ρ, dk, d, ρ1, _, R, ea, fun v H1 S1 l1 R1 rv => ?_⟩
    obtain ⟨p', hp', ⟨ys, hy, ry⟩, _⟩ := R1.env i _ h1
    rw [hp] at hp'; cases hp'
    exact ⟨p, ys, v, rfl, rfl, hy, by rw [ry.length]; exact hl, q _ _ S1 l1 (R1.turnOwn h1 hp ⟨_, upd_same, ry.app (.cons rv .nil)⟩)⟩
theorem tsv_ext {f : E} (h : TSv K W (sExt i f) D' σ H) : tDrop (tBM K "list" rExtend (tVar i) (tCons (TEv K f) tNil)) D' σ H := by
  obtain ⟨S, F, ρ, dk, o, ρ', dk', R, e, q⟩ := h
  unfold sExt at e
  split at e
  case h_2 => cases e
  rename_i d0 h0
  obtain ⟨p, hp, ⟨xs, hx, _⟩, _⟩ := R.env i _ h0
  cases ea : f ρ dk with
  | none => rw [ea] at e; cases e
  | some x =>
    obtain ⟨d, ρ1, k1⟩ := x
    rw [ea] at e
    simp only [Option.bind_some] at e
    split at e
    case h_2 => cases e
    rename_i ds es h1
    split at e
    case isFalse => cases e
    rename_i hl
    cases e
    refine ⟨.ref p, hp, .inl ⟨rfl, _, .inl (.inl hx)⟩, S, F, ρ, dk, _, ρ1, _, R, ea, fun v H1 S1 l1 R1 rv => ?_⟩
    obtain ⟨p', hp', ⟨ys, hy, ry⟩, _⟩ := R1.env i _ h1
    rw [hp] at hp'; cases hp'
    cases rv with
    | lst h2 r2 => exact ⟨p, _, ys, _, rfl, rfl, hy, R1.sh _ _ h2, by rw [ry.length, r2.length]; exact hl, q _ _ S1 l1 (R1.turnOwn h1 hp ⟨_, upd_same, ry.app r2⟩)⟩
end

/-! ## dicts -/
def lkD : List Key → List D → Key → Option D
  | k :: ks, d :: ds, z => if k = z then some d else lkD ks ds z
  | _, _, _ => none
def repD : List Key → List D → Key → D → List D
  | k :: ks, d :: ds, z, v => (if k = z then v else d) :: repD ks ds z v
  | _, _, _, _ => []
def putD (ks : List Key) (ds : List D) (z : Key) (v : D) : List Key × List D := if (ks.any fun k => decide (k = z)) = true then (ks, repD ks ds z v) else (ks ++ [z], ds ++ [v])
def keyD : D → Option Key
  | .int i => some (.inl i)
  | .str x => some (.inr x)
  | _ => none
def gGet : D → D → Option D
  | .dct ks ds, y => (keyD y).bind fun z => lkD ks ds z
  | _, _ => none
def gInD : D → D → Option D
  | y, .dct ks ds => (keyD y).map fun z => .bl (lkD ks ds z).isSome
  | _, _ => none
section
variable {K : PySem.W.Frag} {S : Sx}
theorem lk_some {z : Key} : ∀ {kvs : List (Key × V)} {ds : List D} {d : D}, RpL K S (kvs.map (·.2)) ds → lkD (kvs.map (·.1)) ds z = some d → ∃ v, valV kvs z = some v ∧ Rp K S v d
  | [], _, _, .nil, e => by cases e
  | (k, v) :: r, _, _, .cons h t, e => by
    unfold List.map lkD at e
    by_cases q : k = z
    · rw [if_pos q] at e
      cases e
      exact ⟨v, valV_pos (p := (k, v)) q, h⟩
    · rw [if_neg q] at e
      obtain ⟨u, h1, h2⟩ := lk_some t e
      exact ⟨u, by rw [valV_neg (p := (k, v)) q]; exact h1, h2⟩
theorem lk_none {z : Key} : ∀ {kvs : List (Key × V)} {ds : List D}, RpL K S (kvs.map (·.2)) ds → lkD (kvs.map (·.1)) ds z = none → valV kvs z = none
  | [], _, .nil, e => rfl
  | (k, v) :: r, _, .cons h t, e => by
    unfold List.map lkD at e
    by_cases q : k = z
    · rw [if_pos q] at e; cases e
    · rw [if_neg q] at e
      rw [valV_neg (p := (k, v)) q]
      exact lk_none t e
theorem lk_is {z : Key} {kvs : List (Key × V)} {ds : List D} (r : RpL K S (kvs.map (·.2)) ds) : (lkD (kvs.map (·.1)) ds z).isSome = (valV kvs z).isSome := by
  cases h : lkD (kvs.map (·.1)) ds z with
  | none => rw [lk_none r h]; rfl
  | some d =>
    obtain ⟨v, hv, _⟩ := lk_some r h
    rw [hv]; rfl
theorem key_of_rp {v : V} {y : D} {z : Key} (r : Rp K S v y) (e : keyD y = some z) : v = kV z := by
  cases r with
  | int i => cases e; rfl
  | str x => cases e; rfl
  | _ => cases e
theorem rep_ok {z : Key} {x : V} {y : D} (hx : Rp K S x y) : ∀ {kvs : List (Key × V)} {ds : List D}, RpL K S (kvs.map (·.2)) ds →
    (kvs.map fun kv => if kv.1 = z then (kv.1, x) else kv).map (·.1) = kvs.map (·.1) ∧ RpL K S ((kvs.map fun kv => if kv.1 = z then (kv.1, x) else kv).map (·.2)) (repD (kvs.map (·.1)) ds z y)
  | [], _, .nil => ⟨rfl, .nil⟩
  | (k, v) :: r, _, .cons h t => by
    obtain ⟨h1, h2⟩ := rep_ok hx t
    simp only [List.map_cons, repD]
    by_cases q : k = z
    · rw [if_pos q, if_pos q]; exact ⟨by rw [h1], .cons hx h2⟩
    · rw [if_neg q, if_neg q]; exact ⟨by rw [h1], .cons h h2⟩
theorem put_ok {z : Key} {x : V} {y : D} (hx : Rp K S x y) {kvs : List (Key × V)} {ds : List D} (r : RpL K S (kvs.map (·.2)) ds) : (putK kvs z x).map (·.1) = (putD (kvs.map (·.1)) ds z y).1 ∧ RpL K S ((putK kvs z x).map (·.2)) (putD (kvs.map (·.1)) ds z y).2 := by
  have e : (kvs.any fun kv => decide (kv.1 = z)) = ((kvs.map (·.1)).any fun k => decide (k = z)) := by rw [List.any_map]; rfl
  unfold putK putD
  rw [e]
  split
  · exact rep_ok hx r
  · refine ⟨by simp, ?_⟩
    rw [List.map_append]
    exact r.app (.cons hx .nil)
end
section
variable {X : Cx} {a b : Expr} {fa fb : E} {pos : Pos}
theorem d_get (hu : X.A.units + 1 < cLine) (ha : PE X a (TEv X.K fa)) (hb : PE X b (TEv X.K fb)) (hs : NoSl b) : PE X (.Subscript a b pos) (TEv X.K (eOp gGet fa fb)) :=
  (pe_dget hu ha hb hs).imp fun σ H Q h => tev_op (r := fun x y H2 Q => ∃ a v, x = .ref a ∧ DGet H2 a y (some v) ∧ Q v H2) (fun S H x y d e z Q sh rx ry eg q => by
    unfold gGet at eg
    split at eg
    case h_2 => cases eg
    cases hk : keyD e with
    | none => rw [hk] at eg; cases eg
    | some z =>
      rw [hk] at eg
      cases rx with
      | dct h h1 h2 r =>
        subst h1 h2
        obtain ⟨v, hv, rv⟩ := lk_some r eg
        exact ⟨_, v, rfl, .inl ⟨_, z, sh.rd h, key_of_rp ry hk, hv.symm⟩, q _ S H (Grow.refl sh) rv⟩) h
end

/-! ## texts -/
def gUpper : D → Option D
  | .str x => if x.length ≤ 5592405 then some (.str (Txt.upper x)) else none
  | _ => none
section
variable {X : Cx} {a : Expr} {fa : E} {apos pos : Pos}
theorem d_upper (ha : PE X a (TEv X.K fa)) (hbase : attributeBase a "upper" X.env (eval a X.env) = eval a X.env := by kernel_rfl!) (hline : (apos.endLine == pos.line) = true := by kernel_rfl!) : PE X (.Call (.Attribute a "upper" apos) [] [] pos) (TEv X.K (eUn gUpper fa)) :=
  (pe_upper ha hbase hline).imp fun σ H Q h => tev_un (r := fun x H1 Q => (∃ a, x = .str a) ∧ ∃ a, x = .str a ∧ ([] : List V) = [] ∧ a.length ≤ 5592405 ∧ Q (.str (Txt.upper a)) H1) (fun S H x d z Q sh rx eg q => by
    unfold gUpper at eg
    split at eg
    case h_2 => cases eg
    split at eg
    case isFalse => cases eg
    rename_i hl
    cases eg
    cases rx
    exact ⟨⟨_, rfl⟩, _, rfl, rfl, hl, q _ S H (Grow.refl sh) (.str _)⟩) h
end

/-! ## statements about own things -/
section
variable {X : Cx} {e : Expr} {es : List Expr} {fs : EL} {f : E} {i : Nat} {x : Str} {pos p1 p2 p3 apos cpos : Pos}
theorem s_ownL (ha : PA X es (TAv X.K fs)) (hN : X.N.Nodup) (hi : X.N[i]? = some x) (hx : Loc X.env.scope x) (hf : X.fn x = true ∨ X.env.scope.names.lookup x = some .local := by first | exact .inl (by kernel_rfl!) | exact .inr (by kernel_rfl!) | assumption)
    (hs : swapsWithSole [.Name x p1] (.List es p2) pos.line X.env = pure false := by kernel_rfl!) (hw : swappedStores [.Name x p1] (.List es p2) X.env = pure none := by kernel_rfl!) (h1 : (assignEach [.Name x p1] X.env).map (·.2) = [assign (.Name x p1) X.env] := by kernel_rfl!) :
    PS X (.Assign [.Name x p1] (.List es p2) pos) (TSv X.K W (sOwnL i fs)) := (ps_asg (pe_lst ha) (pg_name hN hi hx hf) hs hw h1).imp fun _ _ _ h => tsv_ownL h
theorem s_app (hN : X.N[i]? = some x) (hv : Vis X.env.scope x) (he : PE X e (TEv X.K f)) (hd : (x == ("__debug__" : Str)) = false := by decide) (hcd : (x == ("__classdict__" : Str)) = false := by decide)
    (hsw : swapsWith (.Call (.Attribute (.Name x p1) "append" apos) [e] [] cpos) none pos.line X.env = pure false := by kernel_rfl!) (hbase : attributeBase (.Name x p1) "append" X.env (eval (.Name x p1) X.env) = eval (.Name x p1) X.env := by kernel_rfl!)
    (hfew : ((backTo cpos (starEach [e] X.env)).all (fun x => !x.1) && (backToKw cpos (keywordEach [] X.env)).all (fun x => x.1.isSome) && decide ([e].length + ([] : List Keyword).length + (if ([] : List Keyword).isEmpty then 0 else 1) < 30)) = true := by kernel_rfl!)
    (hline : (apos.endLine == cpos.line) = true := by kernel_rfl!) (hs : starEach [e] X.env = (false, eval e X.env) :: starEach [] X.env := by kernel_rfl!) (hpl : (backTo cpos (starEach [] X.env)).any (·.1) = false := by kernel_rfl!) :
    PS X (.Expr (.Call (.Attribute (.Name x p1) "append" apos) [e] [] cpos) pos) (TSv X.K W (sApp i f)) :=
  (ps_expr (pe_bm PySem.F.plainAttrs_list PySem.F.slot_list_append PySem.F.type_list_append mt_append (pe_var hN hv hd hcd) (pa_cons he pa_nil hs) hbase hfew hline hs hpl) hsw).imp fun _ _ _ h => tsv_app h
theorem s_ext (hN : X.N[i]? = some x) (hv : Vis X.env.scope x) (he : PE X e (TEv X.K f)) (hd : (x == ("__debug__" : Str)) = false := by decide) (hcd : (x == ("__classdict__" : Str)) = false := by decide)
    (hsw : swapsWith (.Call (.Attribute (.Name x p1) "extend" apos) [e] [] cpos) none pos.line X.env = pure false := by kernel_rfl!) (hbase : attributeBase (.Name x p1) "extend" X.env (eval (.Name x p1) X.env) = eval (.Name x p1) X.env := by kernel_rfl!)
    (hfew : ((backTo cpos (starEach [e] X.env)).all (fun x => !x.1) && (backToKw cpos (keywordEach [] X.env)).all (fun x => x.1.isSome) && decide ([e].length + ([] : List Keyword).length + (if ([] : List Keyword).isEmpty then 0 else 1) < 30)) = true := by kernel_rfl!)
    (hline : (apos.endLine == cpos.line) = true := by kernel_rfl!) (hs : starEach [e] X.env = (false, eval e X.env) :: starEach [] X.env := by kernel_rfl!) (hpl : (backTo cpos (starEach [] X.env)).any (·.1) = false := by kernel_rfl!) :
    PS X (.Expr (.Call (.Attribute (.Name x p1) "extend" apos) [e] [] cpos) pos) (TSv X.K W (sExt i f)) :=
  (ps_expr (pe_bm PySem.F.plainAttrs_list PySem.F.slot_list_extend PySem.F.type_list_extend mt_extend (pe_var hN hv hd hcd) (pa_cons he pa_nil hs) hbase hfew hline hs hpl) hsw).imp fun _ _ _ h => tsv_ext h
end
end WS
namespace WS
open PySem PySem.Spec PyProof.Rows L2

/-! ## truths in sums -/
section
variable {prog : Program} {w : World} {A : Around} {E : Value → Shared → Prop} {s : Shared}
theorem refl_ib_sub : reflectedDiffers (.type "int") (.type "bool") "sub" = pure false := by
  unfold reflectedDiffers
  show (typeLookup (.type "bool") (dunderR "sub") >>= fun rb => typeLookup (.type "int") (dunderR "sub") >>= fun ra => pure (rb.isSome && rb != ra)) = pure false
  rw [typeLookup_type, typeLookup_type, builtinLookup_eq_fast]; kernel_rfl
theorem gives_sub_ib (a : Int) (t : Tok) (b : Bool) : Gives (Builtin.«int.__sub__» ⟨[.int a t, .bool b], []⟩) (.int (a - if b = true then (1 : Int) else 0)) := by cases b <;> exact .of_eq rfl
theorem gives_sub_bi (b : Bool) (a : Int) (t : Tok) : Gives (Builtin.«int.__sub__» ⟨[.bool b, .int a t], []⟩) (.int ((if b = true then (1 : Int) else 0) - a)) := by cases b <;> exact .of_eq rfl
theorem gives_add_bi (b : Bool) (a : Int) (t : Tok) : Gives (Builtin.«int.__add__» ⟨[.bool b, .int a t], []⟩) (.int ((if b = true then (1 : Int) else 0) + a)) := by cases b <;> exact .of_eq rfl
theorem sub_ib {a : Int} {t : Tok} {b : Bool} {Q : Value → Shared → Prop} (h : Q (.int (a - if b = true then (1 : Int) else 0) s.toks) { s with toks := s.toks + 1 }) : wpAny (model prog w) A (binaryOp .Sub (.int a t) (.bool b)) Q E s :=
  binaryOp_sub_gives (op := .Sub) (T := "int") (U := "bool") (by decide) (typeIs_int s a t) rfl F.fills_int_sub F.fills_bool_sub isSubtype_bool_int refl_ib_sub F.slot_int_sub F.entry_int_sub (F.args_int_sub_2 _ _)
    (gives_sub_ib a t b) trivial h
theorem sub_bi {a : Int} {t : Tok} {b : Bool} {Q : Value → Shared → Prop} (h : Q (.int ((if b = true then (1 : Int) else 0) - a) s.toks) { s with toks := s.toks + 1 }) : wpAny (model prog w) A (binaryOp .Sub (.bool b) (.int a t)) Q E s :=
  binaryOp_left_gives (op := .Sub) (T := "bool") (U := "int") (by decide) rfl (fun s' => typeIs_int s' a t) F.fills_bool_sub F.fills_int_sub F.sub_int_bool F.slot_bool_sub F.slot_int_rsub F.entry_int_sub (F.args_int_sub_2 _ _)
    (gives_sub_bi b a t) trivial h
theorem add_bi {a : Int} {t : Tok} {b : Bool} {Q : Value → Shared → Prop} (h : Q (.int ((if b = true then (1 : Int) else 0) + a) s.toks) { s with toks := s.toks + 1 }) : wpAny (model prog w) A (binaryOp .Add (.bool b) (.int a t)) Q E s :=
  binaryOp_left_gives (op := .Add) (T := "bool") (U := "int") (by decide) rfl (fun s' => typeIs_int s' a t) F.fills_bool_add F.fills_int_add F.sub_int_bool F.slot_bool_add F.slot_int_radd F.entry_int_add (F.args_int_add_2 _ _)
    (gives_add_bi b a t) trivial h
end
def gAddB : D → D → Option D
  | .bl k, .int i => some (.int (b2i k + i))
  | d, e => gAdd d e
def gSubB : D → D → Option D
  | .bl k, .int i => some (.int (b2i k - i))
  | .int i, .bl k => some (.int (i - b2i k))
  | d, e => gSub d e
section
variable {X : Cx}
theorem OpX.or {f : Value → Value → Sem Value} {g g' h : D → D → Option D} (a : OpX X f g) (b : OpX X f g') (c : ∀ d e z, h d e = some z → g d e = some z ∨ g' d e = some z) : OpX X f h := by
  obtain ⟨r, h1, h2⟩ := a
  obtain ⟨r', h1', h2'⟩ := b
  refine ⟨_, h1.or h1', fun S H x y d e z Q sh rx ry eg q => ?_⟩
  rcases c d e z eg with k | k
  · exact .inl (h2 S H x y d e z Q sh rx ry k q)
  · exact .inr (h2' S H x y d e z Q sh rx ry k q)
theorem op_add_bi : OpR X (binaryOp .Add) (fun x y H Q => ∃ i k, x = .bl k ∧ y = .int i ∧ Q (.int (b2i k + i)) H) := by
  intro pins s σ H x y v u Q I rx ry h
  obtain ⟨i, k, rfl, rfl, q⟩ := h
  cases rx
  obtain ⟨t, rfl⟩ := ry
  exact add_bi ⟨.int (b2i k + i), H, I.tok _, ⟨_, rfl⟩, q⟩
theorem op_sub_bi : OpR X (binaryOp .Sub) (fun x y H Q => ∃ i k, x = .bl k ∧ y = .int i ∧ Q (.int (b2i k - i)) H) := by
  intro pins s σ H x y v u Q I rx ry h
  obtain ⟨i, k, rfl, rfl, q⟩ := h
  cases rx
  obtain ⟨t, rfl⟩ := ry
  exact sub_bi ⟨.int (b2i k - i), H, I.tok _, ⟨_, rfl⟩, q⟩
theorem op_sub_ib : OpR X (binaryOp .Sub) (fun x y H Q => ∃ i k, x = .int i ∧ y = .bl k ∧ Q (.int (i - b2i k)) H) := by
  intro pins s σ H x y v u Q I rx ry h
  obtain ⟨i, k, rfl, rfl, q⟩ := h
  cases ry
  obtain ⟨t, rfl⟩ := rx
  exact sub_ib ⟨.int (i - b2i k), H, I.tok _, ⟨_, rfl⟩, q⟩
theorem x_addB : OpX X (binaryOp .Add) gAddB := by
  obtain ⟨r, h1, h2⟩ := x_add (X := X)
  refine ⟨_, op_add_bi.or h1, fun S H x y d e z Q sh rx ry eg q => ?_⟩
  unfold gAddB at eg
  split at eg
  · cases eg
    cases rx
    cases ry
    exact .inl ⟨_, _, rfl, rfl, q _ S H (Grow.refl sh) (.int _)⟩
  · exact .inr (h2 S H x y d e z Q sh rx ry eg q)
theorem x_subB : OpX X (binaryOp .Sub) gSubB := by
  obtain ⟨r, h1, h2⟩ := x_sub (X := X)
  refine ⟨_, (op_sub_bi.or op_sub_ib).or h1, fun S H x y d e z Q sh rx ry eg q => ?_⟩
  unfold gSubB at eg
  split at eg
  · cases eg
    cases rx
    cases ry
    exact .inl (.inl ⟨_, _, rfl, rfl, q _ S H (Grow.refl sh) (.int _)⟩)
  · cases eg
    cases rx
    cases ry
    exact .inl (.inr ⟨_, _, rfl, rfl, q _ S H (Grow.refl sh) (.int _)⟩)
  · exact .inr (h2 S H x y d e z Q sh rx ry eg q)
end

/-! ## == of texts, with () and [] -/
def gEqE : D → D → Option D
  | .str a, .str b => some (.bl (decide (a = b)))
  | .tup a, .tup b => if a = [] ∨ b = [] then some (.bl (a.isEmpty && b.isEmpty)) else gEq (.tup a) (.tup b)
  | .lst a, .lst b => if a = [] ∨ b = [] then some (.bl (a.isEmpty && b.isEmpty)) else gEq (.lst a) (.lst b)
  | d, e => gEq d e
def gNeE : D → D → Option D
  | .str a, .str b => some (.bl (!decide (a = b)))
  | .tup a, .tup b => if a = [] ∨ b = [] then some (.bl (!(a.isEmpty && b.isEmpty))) else gNe (.tup a) (.tup b)
  | .lst a, .lst b => if a = [] ∨ b = [] then some (.bl (!(a.isEmpty && b.isEmpty))) else gNe (.lst a) (.lst b)
  | d, e => gNe d e
section
variable {X : Cx}
theorem V.str_eq {a b : Str} : decide (V.str a = V.str b) = decide (a = b) := by
  by_cases h : a = b
  · subst h; simp
  · rw [decide_eq_false h, decide_eq_false (fun z => h (by injection z))]
theorem RpL.isEmpty {K : PySem.W.Frag} {S : Sx} {vs : List V} {ds : List D} (r : RpL K S vs ds) : vs.isEmpty = ds.isEmpty := by cases r <;> rfl
theorem RpL.nil_or {K : PySem.W.Frag} {S : Sx} {vs us : List V} {ds es : List D} (r : RpL K S vs ds) (r' : RpL K S us es) (h : ds = [] ∨ es = []) : vs = [] ∨ us = [] := by
  rcases h with h | h
  · subst h; cases r; exact .inl rfl
  · subst h; cases r'; exact .inr rfl
/-- two tuples, two lists of which one is empty -/
def rSeqE (K : PySem.W.Frag) (f : Bool → Bool) : R2 := fun x y H Q => ∃ a b xs ys, x = .ref a ∧ y = .ref b ∧ ((SqT K H a xs ∧ SqT K H b ys) ∨ (SqL K H a xs ∧ SqL K H b ys)) ∧ (xs = [] ∨ ys = []) ∧ Q (.bl (f (xs.isEmpty && ys.isEmpty))) H
theorem szE {xs ys : List V} {its its2 : List Value} (n1 : xs.length = its.length) (n2 : ys.length = its2.length) (h0 : xs = [] ∨ ys = []) : ((List.range (min its.toArray.size its2.toArray.size)).all (fun _ => true) && its.toArray.size == its2.toArray.size) = (xs.isEmpty && ys.isEmpty) := by
  simp only [List.size_toArray]
  rw [← n1, ← n2]
  rcases h0 with z | z <;> subst z
  · cases ys <;> simp
  · cases xs <;> simp
theorem noE {xs ys : List V} {its its2 : List Value} (n1 : xs.length = its.length) (n2 : ys.length = its2.length) (h0 : xs = [] ∨ ys = []) {p : Prop} (j : Nat) (j1 : j < its.toArray.size) (j2 : j < its2.toArray.size) : p := by
  exfalso
  simp only [List.size_toArray] at j1 j2
  rcases h0 with z | z <;> subst z <;> simp at n1 n2 <;> omega
theorem eE {xs ys : List V} {its its2 : List Value} (n1 : xs.length = its.length) (n2 : ys.length = its2.length) (h0 : xs = [] ∨ ys = []) (hs : its.toArray.size = its2.toArray.size) : (xs.isEmpty && ys.isEmpty) = true ∧ its.toArray.size = 0 := by
  simp only [List.size_toArray] at hs ⊢
  rw [← n1, ← n2] at hs
  rcases h0 with z | z <;> subst z
  · cases ys
    · exact ⟨rfl, by simpa using n1.symm⟩
    · simp at hs
  · cases xs
    · exact ⟨rfl, by simpa using n1.symm⟩
    · simp at hs
theorem fE {xs ys : List V} {its its2 : List Value} (n1 : xs.length = its.length) (n2 : ys.length = its2.length) (hs : ¬ its.toArray.size = its2.toArray.size) : (xs.isEmpty && ys.isEmpty) = false := by
  simp only [List.size_toArray] at hs
  rw [← n1, ← n2] at hs
  cases xs
  · cases ys
    · exact absurd rfl hs
    · rfl
  · rfl
theorem seqE {pins : List (Addr × Obj)} {s : Shared} {σ : L2.St} {H : Hp} {a b : Addr} {xs ys : List V} (I : Inv X pins σ H s) (hu : X.A.units < cLine) (h : (SqT X.K H a xs ∧ SqT X.K H b ys) ∨ (SqL X.K H a xs ∧ SqL X.K H b ys)) (h0 : xs = [] ∨ ys = []) :
    SeqAt.RcAt X.A s (.ref a) (.ref b) (xs.isEmpty && ys.isEmpty) ∧ SeqAt.RcNeAt X.A s (.ref a) (.ref b) (!(xs.isEmpty && ys.isEmpty)) := by
  rcases h with ⟨ha, hb⟩ | ⟨ha, hb⟩
  · obtain ⟨its, rv, ht, _⟩ := I.tuple ha
    obtain ⟨its2, rv2, ht2, _⟩ := I.tuple hb
    have h1 := SeqAt.RcAt.tuples (e := fun _ => true) ht ht2 hu (fun j j1 j2 => noE rv.length rv2.length h0 j j1 j2)
    have h2 := SeqAt.RcNeAt.tuples (e := fun _ => true) ht ht2 hu (fun j j1 j2 => noE rv.length rv2.length h0 j j1 j2)
    rw [szE rv.length rv2.length h0] at h1 h2
    exact ⟨h1, h2⟩
  · obtain ⟨its, rv, ht, _⟩ := I.list ha
    obtain ⟨its2, rv2, ht2, _⟩ := I.list hb
    by_cases hs : its.toArray.size = its2.toArray.size
    · obtain ⟨e1, e2⟩ := eE rv.length rv2.length h0 hs
      have h1 := SeqAt.RcAt.lists (e := fun _ => true) ht.isList ht2.isList hs hu (fun j j1 j2 => noE rv.length rv2.length h0 j j1 j2)
      have h2 := SeqAt.RcNeAt.lists (e := fun _ => true) ht.isList ht2.isList hs hu (fun j j1 j2 => noE rv.length rv2.length h0 j j1 j2)
      rw [e2] at h1 h2
      rw [e1]
      exact ⟨h1, h2⟩
    · have hs' : (its.toArray.size != its2.toArray.size) = true := bne_iff_ne.mpr hs
      rw [fE rv.length rv2.length hs]
      exact ⟨SeqAt.RcAt.lists_lengths ht.isList ht2.isList hs' hu, SeqAt.RcNeAt.lists_lengths ht.isList ht2.isList hs' hu⟩
theorem op_eqTE (hu : X.A.units < cLine) : OpR X (compareOp .Eq) (rSeqE X.K id) := by
  intro pins s σ H x y v u Q I rx ry h
  obtain ⟨a, b, xs, ys, rfl, rfl, ha, h0, q⟩ := h
  cases rx
  cases ry
  exact (seqE I hu ha h0).1 _ _ _ _ ⟨.bl _, H, I, rfl, q⟩
theorem op_neTE (hu : X.A.units < cLine) : OpR X (compareOp .NotEq) (rSeqE X.K fun b => !b) := by
  intro pins s σ H x y v u Q I rx ry h
  obtain ⟨a, b, xs, ys, rfl, rfl, ha, h0, q⟩ := h
  cases rx
  cases ry
  exact (seqE I hu ha h0).2 _ _ _ _ ⟨.bl _, H, I, rfl, q⟩
theorem x_eqE (hu : X.A.units + 64 < cLine) : OpX X (compareOp .Eq) gEqE := by
  obtain ⟨r, h1, h2⟩ := x_eq (X := X) hu
  refine ⟨_, (op_eq.or (op_eqTE (by omega))).or h1, fun S H x y d e z Q sh rx ry eg q => ?_⟩
  unfold gEqE at eg
  split at eg
  · cases eg
    cases rx
    cases ry
    exact .inl (.inl ⟨rfl, by rw [V.str_eq]; exact q _ S H (Grow.refl sh) (.bl _)⟩)
  · split at eg
    · rename_i c
      cases eg
      cases rx with
      | tup ha ra =>
        cases ry with
        | tup hb rb => exact .inl (.inr ⟨_, _, _, _, rfl, rfl, .inl ⟨sh.sqT ha, sh.sqT hb⟩, ra.nil_or rb c, by rw [ra.isEmpty, rb.isEmpty]; exact q _ S H (Grow.refl sh) (.bl _)⟩)
    · exact .inr (h2 S H x y _ _ z Q sh rx ry eg q)
  · split at eg
    · rename_i c
      cases eg
      cases rx with
      | lst ha ra =>
        cases ry with
        | lst hb rb => exact .inl (.inr ⟨_, _, _, _, rfl, rfl, .inr ⟨.inl (.inl (sh _ _ ha)), .inl (.inl (sh _ _ hb))⟩, ra.nil_or rb c, by rw [ra.isEmpty, rb.isEmpty]; exact q _ S H (Grow.refl sh) (.bl _)⟩)
    · exact .inr (h2 S H x y _ _ z Q sh rx ry eg q)
  · exact .inr (h2 S H x y d e z Q sh rx ry eg q)
theorem x_neE (hu : X.A.units + 64 < cLine) : OpX X (compareOp .NotEq) gNeE := by
  obtain ⟨r, h1, h2⟩ := x_ne (X := X) hu
  refine ⟨_, (op_ne.or (op_neTE (by omega))).or h1, fun S H x y d e z Q sh rx ry eg q => ?_⟩
  unfold gNeE at eg
  split at eg
  · cases eg
    cases rx
    cases ry
    exact .inl (.inl ⟨rfl, by rw [V.str_eq]; exact q _ S H (Grow.refl sh) (.bl _)⟩)
  · split at eg
    · rename_i c
      cases eg
      cases rx with
      | tup ha ra =>
        cases ry with
        | tup hb rb => exact .inl (.inr ⟨_, _, _, _, rfl, rfl, .inl ⟨sh.sqT ha, sh.sqT hb⟩, ra.nil_or rb c, by rw [ra.isEmpty, rb.isEmpty]; exact q _ S H (Grow.refl sh) (.bl _)⟩)
    · exact .inr (h2 S H x y _ _ z Q sh rx ry eg q)
  · split at eg
    · rename_i c
      cases eg
      cases rx with
      | lst ha ra =>
        cases ry with
        | lst hb rb => exact .inl (.inr ⟨_, _, _, _, rfl, rfl, .inr ⟨.inl (.inl (sh _ _ ha)), .inl (.inl (sh _ _ hb))⟩, ra.nil_or rb c, by rw [ra.isEmpty, rb.isEmpty]; exact q _ S H (Grow.refl sh) (.bl _)⟩)
    · exact .inr (h2 S H x y _ _ z Q sh rx ry eg q)
  · exact .inr (h2 S H x y d e z Q sh rx ry eg q)
end

/-! ## in -/
def inP (d : D) (xs : List D) : Option Bool := (toP d).bind fun p => (toPs xs).bind fun q => if SeqAt.shaped p = true ∧ SeqAt.shaped (.list q) = true then some (q.any fun z => PyData.eqv z p) else none
def gInS (neg : Bool) : D → D → Option D
  | .str x, .str y => if x.length = 1 then some (.bl (neg != decide (x.cps.getD 0 0 ∈ y.cps.toList))) else none
  | d, .tup xs => (inP d xs).map fun b => .bl (neg != b)
  | d, .lst xs => (inP d xs).map fun b => .bl (neg != b)
  | _, _ => none
def gIn := gInS false
def gNotIn := gInS true
section
variable {X : Cx}
theorem inP_spec {d : D} {xs : List D} {b : Bool} (h : inP d xs = some b) : ∃ p q, toP d = some p ∧ toPs xs = some q ∧ SeqAt.shaped p = true ∧ SeqAt.shaped (.list q) = true ∧ b = q.any fun z => PyData.eqv z p := by
  unfold inP at h
  cases hp : toP d with
  | none => rw [hp] at h; cases h
  | some p =>
    cases hq : toPs xs with
    | none => rw [hp, hq] at h; cases h
    | some q =>
      rw [hp, hq] at h
      simp only [Option.bind_some] at h
      split at h
      · rename_i c; cases h; exact ⟨p, q, rfl, rfl, c.1, c.2, rfl⟩
      · cases h
def rInT (K : PySem.W.Frag) (neg : Bool) : R2 := fun x y H Q => ∃ d ds, Dp K H x d ∧ Dp K H y (.tuple ds) ∧ SeqAt.shaped d = true ∧ SeqAt.shaped (.list ds) = true ∧ Q (.bl (neg != ds.any fun z => PyData.eqv z d)) H
theorem op_inT (hu : X.A.units + 65 < cLine) : OpR X (compareOp .In) (rInT X.K false) := by
  intro pins s σ H x y v u Q I rx ry h
  obtain ⟨d, ds, hd, he, sd, se, q⟩ := h
  obtain ⟨as, r1⟩ := Dp.reads I d x v hd rx
  obtain ⟨bs, r2⟩ := Dp.reads I (.tuple ds) y u he ry
  exact SeqAt.in_tuple_reads r2 r1 (SeqAt.canLay_of_shaped se) (SeqAt.canLay_of_shaped sd) (room_in_shaped sd hu) ⟨.bl _, H, I, by simp [L2.RelV], q⟩
theorem op_notInT (hu : X.A.units + 65 < cLine) : OpR X (compareOp .NotIn) (rInT X.K true) := by
  intro pins s σ H x y v u Q I rx ry h
  obtain ⟨d, ds, hd, he, sd, se, q⟩ := h
  obtain ⟨as, r1⟩ := Dp.reads I d x v hd rx
  obtain ⟨bs, r2⟩ := Dp.reads I (.tuple ds) y u he ry
  exact SeqAt.notIn_tuple_reads r2 r1 (SeqAt.canLay_of_shaped se) (SeqAt.canLay_of_shaped sd) (room_in_shaped sd hu) ⟨.bl _, H, I, by simp [L2.RelV], q⟩
theorem one_str {x : Str} (h : x.length = 1) : x = ⟨#[x.cps.getD 0 0]⟩ := by
  obtain ⟨a⟩ := x
  obtain ⟨l⟩ := a
  have hl : l.length = 1 := h
  match l, hl with
  | [c], _ => rfl
theorem x_inG (neg : Bool) {op : CmpOp} {r r' : R2} {f : V → V → Hp → VK → Prop} (h1 : OpR X (compareOp op) (fun x y H Q => ∃ (c : Nat) (z : Str), x = .str ⟨#[c]⟩ ∧ y = .str z ∧ Q (.bl (neg != decide (c ∈ z.cps.toList))) H)) (h2 : OpR X (compareOp op) (rInT X.K neg))
    (h3 : OpR X (compareOp op) (fun x y H Q => ∃ d ds, Dp X.K H x d ∧ Dp X.K H y (.list ds) ∧ SeqAt.shaped d = true ∧ SeqAt.shaped (.list ds) = true ∧ Q (.bl (neg != ds.any fun z => PyData.eqv z d)) H)) : OpX X (compareOp op) (gInS neg) := by
  refine ⟨_, h1.or (h2.or h3), fun S H x y d e z Q sh rx ry eg q => ?_⟩
  unfold gInS at eg
  split at eg
  · split at eg
    · rename_i x0 y0 hl
      cases eg
      cases rx
      cases ry
      exact .inl ⟨x0.cps.getD 0 0, y0, by rw [← one_str hl], rfl, q _ S H (Grow.refl sh) (.bl _)⟩
    · cases eg
  · rename_i xs
    cases hi : inP d xs with
    | none => rw [hi] at eg; cases eg
    | some b =>
      rw [hi] at eg
      cases eg
      obtain ⟨p, l, e1, e2, s1, s2, rfl⟩ := inP_spec hi
      refine .inr (.inl ⟨p, l, toP_dp sh rx e1, ?_, s1, s2, q _ S H (Grow.refl sh) (.bl _)⟩)
      exact toP_dp sh ry (by unfold toP; rw [e2]; rfl)
  · rename_i xs
    cases hi : inP d xs with
    | none => rw [hi] at eg; cases eg
    | some b =>
      rw [hi] at eg
      cases eg
      obtain ⟨p, l, e1, e2, s1, s2, rfl⟩ := inP_spec hi
      refine .inr (.inr ⟨p, l, toP_dp sh rx e1, ?_, s1, s2, q _ S H (Grow.refl sh) (.bl _)⟩)
      exact toP_dp sh ry (by unfold toP; rw [e2]; rfl)
  · cases eg
theorem OpR.imp {f : Value → Value → Sem Value} {r r' : R2} (h : OpR X f r) (i : ∀ x y H Q, r' x y H Q → r x y H Q) : OpR X f r' := fun pins s σ H x y v u Q I rx ry q => h pins s σ H x y v u Q I rx ry (i _ _ _ _ q)
theorem x_in (hu : X.A.units + 65 < cLine) : OpX X (compareOp .In) gIn :=
  x_inG (r := fun _ _ _ _ => True) (r' := fun _ _ _ _ => True) (f := fun _ _ _ _ => True) false (OpR.imp op_in_sign fun x y H Q h => by simpa using h) (op_inT hu) (OpR.imp (op_inD hu) fun x y H Q h => by unfold rInD; simpa using h)
theorem x_notIn (hu : X.A.units + 65 < cLine) : OpX X (compareOp .NotIn) gNotIn :=
  x_inG (r := fun _ _ _ _ => True) (r' := fun _ _ _ _ => True) (f := fun _ _ _ _ => True) true (OpR.imp op_notIn_sign fun x y H Q h => by simpa using h) (op_notInT hu) (OpR.imp (op_notInD hu) fun x y H Q h => by unfold rNotInD; simpa using h)
end
end WS
namespace WS
open PySem PySem.Spec PyProof.Rows L2
variable {W : WX}

/-! ## displays of dicts -/
section
variable {K : PySem.W.Frag} {σ : L2.St} {H : Hp}
theorem TEv.mono {f : E} {Q Q' : VK} (h : TEv K f σ H Q) (i : ∀ v H, Q v H → Q' v H) : TEv K f σ H Q' := by
  obtain ⟨S, F, ρ, dk, d, ρ', dk', R, e, q⟩ := h
  exact ⟨S, F, ρ, dk, d, ρ', dk', R, e, fun v H' S' l R' rv => i _ _ (q v H' S' l R' rv)⟩
end
def DPs (X : Cx) (pos : Pos) (keys : List (Option Expr)) (vals : List Expr) (ks : List Key) (fs : EL) : Prop :=
  ∃ trs, PPs X pos keys vals trs ∧ ∀ (σ : L2.St) (H : Hp) (Q : List (V × V) → Hp → Prop), TAv X.K fs σ H (fun vs H' => Q ((ks.map kV).zip vs) H') → tPairs trs σ H Q
def eDisp (ks : List Key) (fs : EL) : E := fun ρ k => (fs ρ k).bind fun x => if x.1.length = ks.length then some (.dct ks x.1, x.2.1, x.2.2) else none
def sOwnD (i : Nat) (ks : List Key) (fs : EL) : SS := fun ρ k => (fs ρ k).bind fun x => if x.1.length = ks.length then some (.nx, x.2.1.set i (.own (.dct ks x.1)), x.2.2) else none
section
variable {X : Cx} {pos : Pos} {keys : List (Option Expr)} {vals : List Expr} {ks : List Key} {fs : EL} {f : E} {v : Expr} {σ : L2.St} {H : Hp} {Q : VK}
theorem dp_nil : DPs X pos [] [] [] aNil := ⟨[], pps_nil, fun σ H Q h => tav_nil h⟩
theorem dp_cons {x : Str} {j} {p : Pos} (hv : PE X v (TEv X.K f)) (hr : DPs X pos keys vals ks fs) : DPs X pos (some (.Constant (.str x) j p) :: keys) (v :: vals) (.inr x :: ks) (aCons f fs) := by
  obtain ⟨trs, h1, h2⟩ := hr
  exact ⟨_, pps_cons pe_str hv h1, fun σ H Q h => (tav_cons h : TEv X.K f σ H fun y H1 => TAv X.K fs σ H1 fun vs H2 => Q (((Sum.inr x :: ks).map kV).zip (y :: vs)) H2).mono fun y H1 h => h2 σ H1 _ h⟩
theorem dp_consI {x : Int} {j} {p : Pos} (hv : PE X v (TEv X.K f)) (hr : DPs X pos keys vals ks fs) : DPs X pos (some (.Constant (.int x) j p) :: keys) (v :: vals) (.inl x :: ks) (aCons f fs) := by
  obtain ⟨trs, h1, h2⟩ := hr
  exact ⟨_, pps_cons pe_int hv h1, fun σ H Q h => (tav_cons h : TEv X.K f σ H fun y H1 => TAv X.K fs σ H1 fun vs H2 => Q (((Sum.inl x :: ks).map kV).zip (y :: vs)) H2).mono fun y H1 h => h2 σ H1 _ h⟩
theorem putK_end {kvs : List (Key × V)} {k : Key} {v : V} (h : k ∉ kvs.map (·.1)) : putK kvs k v = kvs ++ [(k, v)] := by
  unfold putK
  rw [if_neg]
  intro z
  obtain ⟨kv, h1, h2⟩ := List.any_eq_true.mp z
  exact h (List.mem_map.mpr ⟨kv, h1, of_decide_eq_true h2⟩)
theorem merge_nodup : ∀ {more kvs : List (Key × V)}, (more.map (·.1)).Nodup → (∀ k ∈ more.map (·.1), k ∉ kvs.map (·.1)) → mergeK kvs more = kvs ++ more
  | [], kvs, _, _ => by simp [mergeK]
  | (k, v) :: r, kvs, hn, hd => by
    rw [List.map_cons, List.nodup_cons] at hn
    show mergeK (putK kvs k v) r = kvs ++ (k, v) :: r
    rw [putK_end (hd k (by simp)), merge_nodup hn.2 ?_, List.append_assoc]
    · rfl
    · intro k' hk' hm
      rw [List.map_append, List.mem_append] at hm
      rcases hm with hm | hm
      · exact hd k' (by rw [List.map_cons]; exact List.mem_cons_of_mem _ hk') hm
      · rw [List.map_cons, List.map_nil, List.mem_singleton] at hm
        exact hn.1 (hm ▸ hk')
theorem zip_kV : ∀ {ks : List Key} {vs : List V}, (ks.map kV).zip vs = (ks.zip vs).map fun kv => (kV kv.1, kv.2)
  | [], vs => by simp
  | k :: ks, [] => by simp
  | k :: ks, v :: vs => by simp [zip_kV (ks := ks)]
theorem zip_fst : ∀ {ks : List Key} {vs : List V}, vs.length = ks.length → (ks.zip vs).map (·.1) = ks
  | [], vs, _ => by simp
  | k :: ks, [], h => by simp at h
  | k :: ks, v :: vs, h => by simp only [List.zip_cons_cons, List.map_cons]; rw [zip_fst (by simpa using h)]
theorem zip_snd' : ∀ {ks : List Key} {vs : List V}, vs.length = ks.length → (ks.zip vs).map (·.2) = vs
  | [], [], _ => by simp
  | [], v :: vs, h => by simp at h
  | k :: ks, [], h => by simp at h
  | k :: ks, v :: vs, h => by simp only [List.zip_cons_cons, List.map_cons]; rw [zip_snd' (by simpa using h)]
theorem disp_run {S : Sx} {F : Hp} {ρ ρ1 : List Sl} {dk k1 : Dk} {ds : List D} {trs : List (TE × TE)} (h2 : ∀ (σ : L2.St) (H : Hp) (Q : List (V × V) → Hp → Prop), TAv X.K fs σ H (fun vs H' => Q ((ks.map kV).zip vs) H') → tPairs trs σ H Q)
    (hnd : ks.Nodup) (h15 : ks.length ≤ 15) (R : Rep X.K σ H S F ρ dk) (ea : fs ρ dk = some (ds, ρ1, k1)) (hl : ds.length = ks.length)
    (q : ∀ p H2 S2 kvs, H p = none → F p = none → Le S S2 → Rep X.K σ (upd H2 p (.dK kvs)) S2 (upd F p (.dK kvs)) ρ1 k1 → kvs.map (·.1) = ks → RpL X.K S2 (kvs.map (·.2)) ds → Q (.ref p) (upd H2 p (.dK kvs))) : tDisp trs σ H Q := by
  intro p hp
  refine h2 σ _ _ ⟨S, upd F p (.dK []), ρ, dk, ds, ρ1, k1, R.frame hp, ea, fun vs H1 S1 l1 R1 rv => ?_⟩
  have hvl : vs.length = ks.length := rv.length.trans hl
  refine ⟨R1.fh _ _ upd_same, ks.zip vs, zip_kV, by rw [List.length_zip, hvl]; simpa using h15, ?_⟩
  rw [merge_nodup (by rw [zip_fst hvl]; exact hnd) (by simp), List.nil_append]
  exact q p H1 S1 _ hp (R.fh.none hp) l1 R1.turnF (zip_fst hvl) (by rw [zip_snd' hvl]; exact rv)
theorem d_disp (h : DPs X pos keys vals ks fs) (hall : keys.all (·.isSome) = true) (hl : keys.length = vals.length) (h0 : keys ≠ []) (h15 : keys.length ≤ 15) (hkl : ks.length ≤ 15) (hnd : ks.Nodup) : PE X (.Dict keys vals pos) (TEv X.K (eDisp ks fs)) := by
  obtain ⟨trs, h1, h2⟩ := h
  refine (pe_disp h1 hall hl h0 h15).imp fun σ H Q h => ?_
  obtain ⟨S, F, ρ, dk, d, ρ', dk', R, e, q⟩ := h
  unfold eDisp at e
  cases ea : fs ρ dk with
  | none => rw [ea] at e; cases e
  | some x =>
    obtain ⟨ds, ρ1, k1⟩ := x
    rw [ea] at e
    simp only [Option.bind_some] at e
    split at e
    case isFalse => cases e
    rename_i hlen
    cases e
    refine disp_run h2 hnd hkl R ea hlen fun p H2 S2 kvs hp nF l2 R2 e1 rv => ?_
    have R3 := R2.unframe nF
    have sp : S2.hp p = none := R2.fs _ _ upd_same
    have le : Le S2 (S2.add p (.dK kvs)) := ⟨Sub.new sp, fun a e => e⟩
    exact q _ _ _ (l2.trans le) R3 (.dct (.inl Sx.add_at) e1 rfl (rv.mono le))
/-- a framed thing becomes a slot's own -/
theorem Rep.ownF {K : PySem.W.Frag} {S : Sx} {F : Hp} {ρ : List Sl} {dk : Dk} {i : Nat} {p : Addr} {o : HO} {d : D} (r : Rep K σ H S (upd F p o) ρ dk) (nF : F p = none) (h : OwnAt K S H p d) : Rep K (σ.set i (some (.ref p))) H S F (ρ.set i (.own d)) dk := by
  have hp : H p = some o := r.fh _ _ upd_same
  have sp : S.hp p = none := r.fs _ _ upd_same
  have fr : ∀ a, upd F p o a = none → a ≠ p ∧ F a = none := fun a e => by
    by_cases q : a = p
    · subst q; rw [upd_same] at e; cases e
    · rw [upd_ne q] at e; exact ⟨q, e⟩
  have old : ∀ (j : Nat) (c : D), i ≠ j → (ρ.set i (.own d))[j]? = some (Sl.own c) → ρ[j]? = some (Sl.own c) := fun j c q e => by rw [List.getElem?_set_ne q] at e; exact e
  have nown : ∀ (j : Nat) (c : D), ρ[j]? = some (Sl.own c) → σ[j]? ≠ some (some (V.ref p)) := fun j c e z => by
    obtain ⟨p', h1, h2, _, h4⟩ := r.env j _ e
    rw [z] at h1; cases h1
    exact (fr _ h4).1 rfl
  refine ⟨r.sh, fun a u e => ?_, fun a u e => ?_, by simp [r.len], fun j s e => ?_, fun j k c e p' h1 h2 h3 h4 => ?_, ?_⟩
  · exact r.fh a u (by rw [upd_ne (fun z => by subst z; rw [nF] at e; cases e)]; exact e)
  · exact r.fs a u (by rw [upd_ne (fun z => by subst z; rw [nF] at e; cases e)]; exact e)
  · by_cases q : i = j
    · subst q
      have hl : i < ρ.length := by have := Owns.lt e; simpa using this
      rw [List.getElem?_set_self hl] at e
      cases e
      exact ⟨p, by rw [List.getElem?_set_self (by rw [r.len]; exact hl)], h, sp, nF⟩
    · rw [List.getElem?_set_ne q] at e
      have z := r.env j s e
      cases s with
      | no => trivial
      | val c => obtain ⟨u, z1, z2⟩ := z; exact ⟨u, by rw [List.getElem?_set_ne q]; exact z1, z2⟩
      | own c => obtain ⟨p', z1, z2, z3, z4⟩ := z; exact ⟨p', by rw [List.getElem?_set_ne q]; exact z1, z2, z3, (fr _ z4).2⟩
  · by_cases q1 : i = j
    · by_cases q2 : i = k
      · rw [← q1, ← q2]
      · subst q1
        have hl : i < σ.length := by rw [r.len]; have := Owns.lt h1; simpa using this
        rw [List.getElem?_set_self hl] at h3
        cases h3
        rw [List.getElem?_set_ne q2] at h4
        exact (nown k e (old k e q2 h2) h4).elim
    · by_cases q2 : i = k
      · subst q2
        have hl : i < σ.length := by rw [r.len]; have := Owns.lt h2; simpa using this
        rw [List.getElem?_set_self hl] at h4
        cases h4
        rw [List.getElem?_set_ne q1] at h3
        exact (nown j c (old j c q1 h1) h3).elim
      · rw [List.getElem?_set_ne q1] at h3
        rw [List.getElem?_set_ne q2] at h4
        exact r.dist j k c e p' (old j c q1 h1) (old k e q2 h2) h3 h4
  · have q := r.dka
    cases dk with
    | none => exact q
    | some x =>
      obtain ⟨cells, at_, sum⟩ := x
      obtain ⟨a, c, q1, q2, q3, q4, q5, q6, q7, q8, q9⟩ := q
      obtain ⟨na, q6⟩ := fr a q6
      obtain ⟨nc, q7⟩ := fr c q7
      have ne : ∀ b, b ≠ p → ¬ Owns σ ρ b → ¬ Owns (σ.set i (some (.ref p))) (ρ.set i (.own d)) b := fun b nb n z => by
        obtain ⟨j, c', z1, z2⟩ := z
        by_cases q : i = j
        · subst q
          have hl : i < σ.length := by rw [r.len]; have := Owns.lt z1; simpa using this
          rw [List.getElem?_set_self hl] at z2
          cases z2
          exact nb rfl
        · rw [List.getElem?_set_ne q] at z2
          exact n ⟨j, c', old j c' q z1, z2⟩
      exact ⟨a, c, q1, q2, q3, q4, q5, q6, q7, ne _ na q8, ne _ nc q9⟩
theorem d_dict0 : PE X (.Dict [] [] pos) (TEv X.K (eC (.dct [] []))) := pe_dnewK.imp fun σ H Q h => by
  obtain ⟨S, F, ρ, dk, d, ρ', dk', R, e, q⟩ := h
  cases e
  intro p hp
  have g := Grow.add (o := .dK []) R.sh hp
  exact q _ _ _ g.le (R.grow g) (.dct (.inl Sx.add_at) rfl rfl .nil)
end

/-! ## own dicts -/
def eOGet (i : Nat) (fk : E) : E := fun ρ k => match ρ[i]? with
  | some (.own (.dct _ _)) => (fk ρ k).bind fun y => match y.2.1[i]? with
    | some (.own (.dct ks ds)) => (keyD y.1).bind fun z => (lkD ks ds z).map fun d => (d, y.2.1, y.2.2)
    | _ => none
  | _ => none
def eOIn (neg : Bool) (fk : E) (i : Nat) : E := fun ρ k => (fk ρ k).bind fun y => match y.2.1[i]? with
  | some (.own (.dct ks ds)) => (keyD y.1).map fun z => (.bl (neg != (lkD ks ds z).isSome), y.2.1, y.2.2)
  | _ => none
def sPut (i : Nat) (fk fv : E) : SS := fun ρ k => (fv ρ k).bind fun v => match v.2.1[i]? with
  | some (.own (.dct _ _)) => (fk v.2.1 v.2.2).bind fun y => match y.2.1[i]? with
    | some (.own (.dct ks ds)) => (keyD y.1).bind fun z => if ks.length < sizeLine then some (.nx, y.2.1.set i (.own (.dct (putD ks ds z v.1).1 (putD ks ds z v.1).2)), y.2.2) else none
    | _ => none
  | _ => none
section
variable {K : PySem.W.Frag} {σ : L2.St} {H : Hp} {Q : VK} {D' : Ends} {i : Nat}
theorem own_dct {S : Sx} {F : Hp} {ρ : List Sl} {dk : Dk} {ks : List Key} {ds : List D} (R : Rep K σ H S F ρ dk) (h : ρ[i]? = some (.own (.dct ks ds))) : ∃ p kvs, σ[i]? = some (some (V.ref p)) ∧ H p = some (.dK kvs) ∧ kvs.map (·.1) = ks ∧ RpL K S (kvs.map (·.2)) ds := by
  obtain ⟨p, hp, ⟨kvs, hx, hk, r⟩, _⟩ := R.env i _ h
  exact ⟨p, kvs, hp, hx, hk, r⟩
theorem own_lst {S : Sx} {F : Hp} {ρ : List Sl} {dk : Dk} {ds : List D} (R : Rep K σ H S F ρ dk) (h : ρ[i]? = some (.own (.lst ds))) : ∃ p xs, σ[i]? = some (some (V.ref p)) ∧ H p = some (.lst xs) ∧ RpL K S xs ds := by
  obtain ⟨p, hp, ⟨xs, hx, r⟩, _⟩ := R.env i _ h
  exact ⟨p, xs, hp, hx, r⟩
theorem tev_oget {f : E} (h : TEv K (eOGet i f) σ H Q) : tDGet (tVar i) (TEv K f) σ H Q := by
  obtain ⟨S, F, ρ, dk, d, ρ', dk', R, e, q⟩ := h
  unfold eOGet at e
  split at e
  case h_2 => cases e
  rename_i h0
  obtain ⟨p, _, hp, _⟩ := own_dct R h0
  cases ea : f ρ dk with
  | none => rw [ea] at e; cases e
  | some x =>
    obtain ⟨y, ρ1, k1⟩ := x
    rw [ea] at e
    simp only [Option.bind_some] at e
    split at e
    case h_2 => cases e
    rename_i ks ds h1
    cases hk : keyD y with
    | none => rw [hk] at e; cases e
    | some z =>
      rw [hk] at e
      simp only [Option.bind_some] at e
      cases hl : lkD ks ds z with
      | none => rw [hl] at e; cases e
      | some d0 =>
        rw [hl] at e
        cases e
        refine ⟨.ref p, hp, S, F, ρ, dk, y, _, _, R, ea, fun v H1 S1 l1 R1 rv => ?_⟩
        obtain ⟨p', kvs, hp', hH, hks, rr⟩ := own_dct R1 h1
        rw [hp] at hp'; cases hp'
        subst hks
        obtain ⟨u, hu, ru⟩ := lk_some rr hl
        exact ⟨p, u, rfl, .inl ⟨_, z, .inl hH, key_of_rp rv hk, hu.symm⟩, q _ H1 S1 l1 R1 ru⟩
theorem tev_oin {f : E} (h : TEv K (eOIn false f i) σ H Q) : tDIn (TEv K f) (tVar i) σ H Q := by
  obtain ⟨S, F, ρ, dk, d, ρ', dk', R, e, q⟩ := h
  unfold eOIn at e
  cases ea : f ρ dk with
  | none => rw [ea] at e; cases e
  | some x =>
    obtain ⟨y, ρ1, k1⟩ := x
    rw [ea] at e
    simp only [Option.bind_some] at e
    split at e
    case h_2 => cases e
    rename_i ks ds h1
    cases hk : keyD y with
    | none => rw [hk] at e; cases e
    | some z =>
      rw [hk] at e
      cases e
      refine ⟨S, F, ρ, dk, y, _, _, R, ea, fun v H1 S1 l1 R1 rv => ?_⟩
      obtain ⟨p, kvs, hp, hH, hks, rr⟩ := own_dct R1 h1
      subst hks
      refine ⟨.ref p, hp, p, valV kvs z, rfl, .inl ⟨_, z, .inl hH, key_of_rp rv hk, rfl⟩, ?_⟩
      have := q (.bl (false != (lkD (kvs.map (·.1)) ds z).isSome)) H1 S1 l1 R1 (.bl _)
      rw [lk_is rr] at this
      simpa using this
theorem tev_onotin {f : E} (h : TEv K (eOIn true f i) σ H Q) : tDNotIn (TEv K f) (tVar i) σ H Q := by
  obtain ⟨S, F, ρ, dk, d, ρ', dk', R, e, q⟩ := h
  unfold eOIn at e
  cases ea : f ρ dk with
  | none => rw [ea] at e; cases e
  | some x =>
    obtain ⟨y, ρ1, k1⟩ := x
    rw [ea] at e
    simp only [Option.bind_some] at e
    split at e
    case h_2 => cases e
    rename_i ks ds h1
    cases hk : keyD y with
    | none => rw [hk] at e; cases e
    | some z =>
      rw [hk] at e
      cases e
      refine ⟨S, F, ρ, dk, y, _, _, R, ea, fun v H1 S1 l1 R1 rv => ?_⟩
      obtain ⟨p, kvs, hp, hH, hks, rr⟩ := own_dct R1 h1
      subst hks
      refine ⟨.ref p, hp, p, valV kvs z, rfl, .inl ⟨_, z, .inl hH, key_of_rp rv hk, rfl⟩, ?_⟩
      have := q (.bl (true != (lkD (kvs.map (·.1)) ds z).isSome)) H1 S1 l1 R1 (.bl _)
      rw [lk_is rr] at this
      simpa using this
theorem tsv_put {fk fv : E} (h : TSv K W (sPut i fk fv) D' σ H) : sDPut (tVar i) (TEv K fk) (TEv K fv) D' σ H := by
  obtain ⟨S, F, ρ, dk, o, ρ', dk', R, e, q⟩ := h
  unfold sPut at e
  cases ev : fv ρ dk with
  | none => rw [ev] at e; cases e
  | some x =>
    obtain ⟨dv, ρ1, k1⟩ := x
    rw [ev] at e
    simp only [Option.bind_some] at e
    split at e
    case h_2 => cases e
    rename_i h0
    cases ea : fk ρ1 k1 with
    | none => rw [ea] at e; cases e
    | some x =>
      obtain ⟨y, ρ2, k2⟩ := x
      rw [ea] at e
      simp only [Option.bind_some] at e
      split at e
      case h_2 => cases e
      rename_i ks ds h1
      cases hk : keyD y with
      | none => rw [hk] at e; cases e
      | some z =>
        rw [hk] at e
        simp only [Option.bind_some] at e
        split at e
        case isFalse => cases e
        rename_i hl
        cases e
        refine ⟨S, F, ρ, dk, dv, ρ1, k1, R, ev, fun v H1 S1 l1 R1 rv => ?_⟩
        obtain ⟨p, _, hp, _⟩ := own_dct R1 h0
        refine ⟨.ref p, hp, S1, F, ρ1, k1, y, _, _, R1, ea, fun u H2 S2 l2 R2 ru => ?_⟩
        obtain ⟨p', kvs, hp', hH, hks, rr⟩ := own_dct R2 h1
        rw [hp] at hp'; cases hp'
        subst hks
        obtain ⟨k1', k2'⟩ := put_ok (z := z) (rv.mono l2) rr
        refine ⟨p, _, rfl, .inl ⟨kvs, z, hH, key_of_rp ru hk, by rw [List.length_map] at hl; exact hl, rfl⟩, ?_⟩
        exact q _ _ S2 (l1.trans l2) (R2.turnOwn h1 hp ⟨_, upd_same, k1', k2'⟩)
end
section
variable {X : Cx} {e a b : Expr} {es : List Expr} {fs : EL} {f fv : E} {i : Nat} {x : Str} {pos p1 p2 p3 apos cpos : Pos}
theorem d_oget (hu : X.A.units + 1 < cLine) (hN : X.N[i]? = some x) (hv : Vis X.env.scope x) (he : PE X e (TEv X.K f)) (hs : NoSl e) (hd : (x == ("__debug__" : Str)) = false := by decide) (hcd : (x == ("__classdict__" : Str)) = false := by decide) :
    PE X (.Subscript (.Name x p1) e pos) (TEv X.K (eOGet i f)) := (pe_dget hu (pe_var hN hv hd hcd) he hs).imp fun _ _ _ h => tev_oget h
theorem d_oin (hu : X.A.units + 1 < cLine) (hN : X.N[i]? = some x) (hv : Vis X.env.scope x) (he : PE X e (TEv X.K f)) (hm : behindInMarks .In (.Name x p1) = false := by kernel_rfl!) (hd : (x == ("__debug__" : Str)) = false := by decide) (hcd : (x == ("__classdict__" : Str)) = false := by decide) :
    PE X (.Compare e [.In] [.Name x p1] pos) (TEv X.K (eOIn false f i)) := (pe_cmp (pc_din hu he (pe_var hN hv hd hcd)) hm).imp fun _ _ _ h => tev_oin h
theorem d_onotin (hu : X.A.units + 1 < cLine) (hN : X.N[i]? = some x) (hv : Vis X.env.scope x) (he : PE X e (TEv X.K f)) (hm : behindInMarks .NotIn (.Name x p1) = false := by kernel_rfl!) (hd : (x == ("__debug__" : Str)) = false := by decide) (hcd : (x == ("__classdict__" : Str)) = false := by decide) :
    PE X (.Compare e [.NotIn] [.Name x p1] pos) (TEv X.K (eOIn true f i)) := (pe_cmp (pc_dnotin hu he (pe_var hN hv hd hcd)) hm).imp fun _ _ _ h => tev_onotin h
end
end WS
namespace WS
open PySem PySem.Spec PyProof.Rows L2

/-! ## written data of the module -/
def RpK (K : PySem.W.Frag) (u : Value) (d : D) : Prop := ∃ v, L2.RelV v u ∧ ∀ S, Rp K S v d
inductive RpKs (K : PySem.W.Frag) : List Value → List D → Prop
  | nil : RpKs K [] []
  | cons {u : Value} {us : List Value} {d : D} {ds : List D} : RpK K u d → RpKs K us ds → RpKs K (u :: us) (d :: ds)
section
variable {K : PySem.W.Frag}
theorem RpKs.vals {us : List Value} {ds : List D} (h : RpKs K us ds) : ∃ vs, Vals vs us ∧ ∀ S, RpL K S vs ds := by
  induction h with
  | nil => exact ⟨[], .nil, fun S => .nil⟩
  | cons h t ih =>
    obtain ⟨v, r, q⟩ := h
    obtain ⟨vs, rs, qs⟩ := ih
    exact ⟨v :: vs, .cons r rs, fun S => .cons (q S) (qs S)⟩
theorem rk_int {i : Int} {t : Tok} : RpK K (.int i t) (.int i) := ⟨.int i, ⟨t, rfl⟩, fun S => .int i⟩
theorem rk_str {x : Str} {t : Tok} : RpK K (.str x t) (.str x) := ⟨.str x, ⟨t, rfl⟩, fun S => .str x⟩
theorem rk_bl {b : Bool} : RpK K (.bool b) (.bl b) := ⟨.bl b, rfl, fun S => .bl b⟩
theorem rk_non : RpK K .none .non := ⟨.non, rfl, fun S => .non⟩
theorem rk_obj {a : Addr} : RpK K (.ref a) (.obj a) := ⟨.ref a, rfl, fun S => .obj a⟩
theorem rk_tup {a : Addr} {its : Array Value} {n : Nat} {ds : List D} (h : K.lookup a = some ⟨.type "tuple", none, .seq its n, #[]⟩) (r : RpKs K its.toList ds) (hz : its.size ≤ sizeLine) : RpK K (.ref a) (.tup ds) := by
  obtain ⟨vs, rv, rr⟩ := r.vals
  exact ⟨.ref a, rfl, fun S => .tup (.inr ⟨_, its, n, h, rfl, rfl, hz, rv⟩) (rr S)⟩
/-- a table: what stands at each text -/
def KTab (K : PySem.W.Frag) (w : World) (a : Addr) (tab : List (Str × D)) : Prop :=
  (∃ es n, KDict K w a es n) ∧ ∀ z : Str, match tab.lookup z with
    | some d => ∃ u, PySem.W.nsIn K a z = some (some u) ∧ RpK K u d
    | none => PySem.W.nsIn K a z = some none
inductive TabEs (K : PySem.W.Frag) : List DictEntry → List (Str × D) → Prop
  | nil : TabEs K [] []
  | cons {h : Int} {x : Str} {t : Tok} {u : Value} {d : D} {es : List DictEntry} {tab : List (Str × D)} : RpK K u d → TabEs K es tab → TabEs K (⟨h, .str x t, u⟩ :: es) ((x, d) :: tab)
theorem TabEs.find {es : List DictEntry} {tab : List (Str × D)} (h : TabEs K es tab) (z : Str) : match tab.lookup z with
    | some d => ∃ e, es.find? (·.key.isStr z) = some e ∧ RpK K e.val d
    | none => es.find? (·.key.isStr z) = none := by
  induction h with
  | nil => rfl
  | @cons h x t u d es tab hr _ ih =>
    have hk : (Value.str x t).isStr z = (z == x) := by
      show (x == z) = (z == x)
      rw [Bool.eq_iff_iff, beq_iff_eq, beq_iff_eq]
      exact eq_comm
    rw [List.lookup_cons, List.find?_cons]
    show match (match z == x with | true => some d | false => tab.lookup z) with
      | some d => ∃ e, (match (Value.str x t).isStr z with | true => some (⟨h, .str x t, u⟩ : DictEntry) | false => es.find? (·.key.isStr z)) = some e ∧ RpK K e.val d
      | none => (match (Value.str x t).isStr z with | true => some (⟨h, .str x t, u⟩ : DictEntry) | false => es.find? (·.key.isStr z)) = none
    rw [hk]
    cases z == x with
    | true => exact ⟨_, rfl, hr⟩
    | false => exact ih
theorem TabEs.noRef {es : List DictEntry} {tab : List (Str × D)} (h : TabEs K es tab) : es.any (·.refKey) = false := by
  induction h with
  | nil => rfl
  | cons _ _ ih => rw [List.any_cons, ih]; rfl
theorem KTab.mk {w : World} {a : Addr} {tab : List (Str × D)} {es : Array DictEntry} {n : Nat} (h1 : K.lookup a = some ⟨.type "dict", none, .dict es n, #[]⟩) (h2 : PySem.W.KeysLit w.params es.toList) (h3 : TabEs K es.toList tab) (h4 : (a == sysModules) = false) : KTab K w a tab := by
  refine ⟨⟨es, n, h1, h2, h4⟩, fun z => ?_⟩
  have q := h3.find z
  cases e : tab.lookup z with
  | some d =>
    rw [e] at q
    obtain ⟨en, e1, e2⟩ := q
    refine ⟨en.val, ?_, e2⟩
    unfold PySem.W.nsIn
    rw [h1]
    show (match es.toList.find? (·.key.isStr z) with | some e => some (some e.val) | none => if es.toList.any (·.refKey) then none else some none) = _
    rw [e1]
  | none =>
    rw [e] at q
    show PySem.W.nsIn K a z = some none
    unfold PySem.W.nsIn
    rw [h1]
    show (match es.toList.find? (·.key.isStr z) with | some e => some (some e.val) | none => if es.toList.any (·.refKey) then none else some none) = _
    rw [show es.toList.find? (·.key.isStr z) = none from q, h3.noRef]
    rfl
end
def gTab (a : Addr) (tab : List (Str × D)) : D → D → Option D
  | .obj b, .str z => if b = a then tab.lookup z else none
  | _, _ => none
def gTabIn (neg : Bool) (a : Addr) (tab : List (Str × D)) : D → D → Option D
  | .str z, .obj b => if b = a then some (.bl (neg != (tab.lookup z).isSome)) else none
  | _, _ => none
section
variable {X : Cx} {a : Addr} {tab : List (Str × D)} {e b : Expr} {fa fb : E} {pos : Pos}
def rTab (K : PySem.W.Frag) (a : Addr) : R2 := fun x y H Q => ∃ (z : Str) (u0 : Value) (v0 : V), x = .ref a ∧ y = .str z ∧ PySem.W.nsIn K a z = some (some u0) ∧ L2.RelV v0 u0 ∧ Q v0 H
theorem ktab_op (T : KTab X.K X.w a tab) : OpD X.K (rTab X.K a) (gTab a tab) := by
  intro S H x y d e z Q sh rx ry eg q
  unfold gTab at eg
  split at eg
  case h_2 => cases eg
  rename_i b0 z0
  split at eg
  case isFalse => cases eg
  rename_i hb
  subst hb
  have h := T.2 z0
  rw [eg] at h
  obtain ⟨u, h1, v, h2, h3⟩ := h
  cases rx
  cases ry
  exact ⟨z0, u, v, rfl, rfl, h1, h2, q v S H (Grow.refl sh) (h3 S)⟩
theorem d_tab (T : KTab X.K X.w a tab) (ha : PE X e (TEv X.K fa)) (hb : PE X b (TEv X.K fb)) (hs : NoSl b) : PE X (.Subscript e b pos) (TEv X.K (eOp (gTab a tab) fa fb)) := by
  obtain ⟨es, n, Dk⟩ := T.1
  have h : PE X (.Subscript e b pos) (tOp (rTab X.K a) (TEv X.K fa) (TEv X.K fb)) := by
    refine ⟨fun pins s σ H Q I h => ?_⟩
    refine subD_of PySem.F.slot_dict_getitem.lookup hs (thn (ha.run pins s σ H _ I h) fun u s1 ⟨x, H1, I1, rx, q1⟩ => thn (hb.run pins s1 σ H1 _ I1 q1) fun iv s2 ⟨y, H2, I2, ry, q2⟩ => ?_)
    obtain ⟨z, u0, v0, ex, ey, q⟩ := q2
    subst ex
    obtain rfl : u = Value.ref a := rx
    exact ⟨kd_type Dk I2, op_item_kd Dk pins s2 σ H2 (.ref a) y (.ref a) iv Q I2 rfl ry ⟨z, u0, v0, rfl, ey, q⟩⟩
  exact h.imp fun _ _ _ h => tev_op (ktab_op T) h
theorem x_tabIn (T : KTab X.K X.w a tab) : OpX X (compareOp .In) (gTabIn false a tab) := by
  obtain ⟨es, n, Dk⟩ := T.1
  refine ⟨_, op_in_kd Dk, fun S H x y d e z Q sh rx ry eg q => ?_⟩
  unfold gTabIn at eg
  split at eg
  case h_2 => cases eg
  rename_i z0 b0
  split at eg
  case isFalse => cases eg
  rename_i hb
  subst hb
  cases eg
  cases rx
  cases ry
  have h := T.2 z0
  cases e : tab.lookup z0 with
  | some d =>
    rw [e] at h q
    obtain ⟨u, h1, _⟩ := h
    exact ⟨z0, _, rfl, rfl, h1, q _ S H (Grow.refl sh) (.bl _)⟩
  | none =>
    rw [e] at h q
    exact ⟨z0, _, rfl, rfl, h, q _ S H (Grow.refl sh) (.bl _)⟩
theorem x_tabNotIn (T : KTab X.K X.w a tab) : OpX X (compareOp .NotIn) (gTabIn true a tab) := by
  obtain ⟨es, n, Dk⟩ := T.1
  refine ⟨_, op_notIn_kd Dk, fun S H x y d e z Q sh rx ry eg q => ?_⟩
  unfold gTabIn at eg
  split at eg
  case h_2 => cases eg
  rename_i z0 b0
  split at eg
  case isFalse => cases eg
  rename_i hb
  subst hb
  cases eg
  cases rx
  cases ry
  have h := T.2 z0
  cases e : tab.lookup z0 with
  | some d =>
    rw [e] at h q
    obtain ⟨u, h1, _⟩ := h
    exact ⟨z0, _, rfl, rfl, h1, q _ S H (Grow.refl sh) (.bl _)⟩
  | none =>
    rw [e] at h q
    exact ⟨z0, _, rfl, rfl, h, q _ S H (Grow.refl sh) (.bl _)⟩
end
end WS
namespace WS
open PySem PySem.Spec PyProof.Rows L2

/-! ## the deck and its draws -/
def figure (seed at_ m : Int) : Int :=
  let f := (seed % 2147483647 * 48271 + 69621 * at_ * at_ + 7919) % 2147483629
  let g := f * f % 2147483587
  g * (g + 39373) % 2147483563 / 64 % m
def F_deck : Fn := fun ds k => match ds, k with
  | [.rdl xs], none => (intsOf xs).map fun ns => (.deck, some (ns.take 63, 0, (ns.take 63).sum % 2147483629 + 17 * ((ns.take 63).length : Int)))
  | _, _ => none
def F_draw : Fn := fun ds k => match ds, k with
  | [.deck, .int m], some (cells, at_, sum) => if 0 < m ∧ m < 1073741824 ∧ 0 ≤ at_ ∧ at_ < 2 ^ 62 ∧ cells.length ≤ 1000 then
      match cells with
      | [] => some (.int (figure (sum + (at_ + 1)) (at_ + 1) m), some ([], at_ + 1, sum))
      | c :: r => if 10 ^ 18 ≤ c then some (.int (c % m), some (c / m :: r, at_ + 1, sum)) else some (.int (figure c (at_ + 1) m), some (r, at_ + 1, sum))
    else none
  | _, _ => none

/-- the deck's own place, changed -/
theorem Rep.turnDk {K : PySem.W.Frag} {H H' : Hp} {S : Sx} {F : Hp} {cells cells' : List Int} {at_ at' sum : Int} {a c : Addr}
    (r : Rep K [] H S F [] (some (cells, at_, sum))) (ea : S.da = some a) (ha : H a = some (.dK [(kCells, .ref c), (kAt, .int at_), (kSum, .int sum)])) (hc : H c = some (.lst (cells.map V.int)))
    (off : ∀ b o, H b = some o → b ≠ a → b ≠ c → H' b = some o) (ha' : H' a = some (.dK [(kCells, .ref c), (kAt, .int at'), (kSum, .int sum)])) (hc' : H' c = some (.lst (cells'.map V.int))) :
    Rep K [] H' S F [] (some (cells', at', sum)) := by
  obtain ⟨a2, c2, e1, e2, e3, e4, e5, e6, e7, e8, e9⟩ := r.dka
  rw [ea] at e1; cases e1
  rw [ha] at e2
  have hcc : c = c2 := by
    have := Option.some.inj e2
    injection this with q
    injection q with q1 _
    injection q1 with _ q3
    injection q3
  subst hcc
  refine ⟨fun b o e => ?_, fun b o e => ?_, r.fs, rfl, fun i s e => by simp at e, fun i j d e p h => by simp at h, ⟨a, c, ea, ha', hc', e4, e5, e6, e7, fun ⟨i, d, h, _⟩ => by simp at h, fun ⟨i, d, h, _⟩ => by simp at h⟩⟩
  · exact off b o (r.sh b o e) (fun z => by subst z; rw [e4] at e; cases e) (fun z => by subst z; rw [e5] at e; cases e)
  · exact off b o (r.fh b o e) (fun z => by subst z; rw [e6] at e; cases e) (fun z => by subst z; rw [e7] at e; cases e)
theorem cells_dp {K : PySem.W.Frag} {H : Hp} {c : Addr} {ns : List Int} (h : SqL K H c (ns.map V.int)) : Dp K H (.ref c) (.list (ns.map PyData.int)) := by
  refine .lst h ?_
  clear h
  induction ns with
  | nil => exact .nil
  | cons n r ih => exact .cons (.int n) ih
theorem ints_shaped (ns : List Int) : SeqAt.shaped (.list (ns.map PyData.int)) = true := by
  unfold SeqAt.shaped
  rw [Bool.and_eq_true]
  have h1 : ∀ l : List Int, PyData.canLayAll0 (l.map PyData.int) = true := by
    intro l
    induction l with
    | nil => rfl
    | cons n r ih => simp [PyData.canLayAll0, PyData.canLay0, ih]
  have h2 : ∀ l : List Int, PyData.depthAll (l.map PyData.int) ≤ 1 := by
    intro l
    induction l with
    | nil => simp [PyData.depthAll]
    | cons n r ih => simp [PyData.depthAll, PyData.depth]; exact ih
  exact ⟨by simpa [PyData.canLay0] using h1 ns, decide_eq_true (by
    have := h2 ns
    simp only [PyData.depth]
    omega)⟩
theorem ints_eqv (ns : List Int) : PyData.eqv (.list (ns.map PyData.int)) (.list []) = ns.isEmpty := by
  cases ns <;> rfl

theorem seq0 {n : Nat} (h : 0 < n) : seqIndex? 0 n = some 0 := by
  unfold seqIndex?
  simp
  omega
theorem k_ca : ¬ kCells = kAt := by decide +kernel
theorem k_cs : ¬ kCells = kSum := by decide +kernel
theorem k_as : ¬ kAt = kSum := by decide +kernel
section
variable {c : V} {x y : V} {H : Hp} {a : Addr}
theorem dk_cells : valV [(kCells, c), (kAt, x), (kSum, y)] kCells = some c := valV_pos (p := (kCells, c)) rfl
theorem dk_at : valV [(kCells, c), (kAt, x), (kSum, y)] kAt = some x := by
  rw [valV_neg (p := (kCells, c)) k_ca]; exact valV_pos (p := (kAt, x)) rfl
theorem dk_sum : valV [(kCells, c), (kAt, x), (kSum, y)] kSum = some y := by
  rw [valV_neg (p := (kCells, c)) k_cs, valV_neg (p := (kAt, x)) k_as]; exact valV_pos (p := (kSum, y)) rfl
theorem putK_cons {k z : Key} {v x : V} {r : List (Key × V)} : putK ((k, v) :: r) z x = if k = z then (if (r.any fun kv => decide (kv.1 = z)) = true then (k, x) :: (r.map fun kv => if kv.1 = z then (kv.1, x) else kv) else (k, x) :: r) else (k, v) :: putK r z x := by
  unfold putK
  by_cases q : k = z
  · rw [if_pos q]
    simp only [List.any_cons, q, decide_true, Bool.true_or, if_true, List.map_cons]
    split
    · rfl
    · rename_i h
      congr 1
      rw [List.map_congr_left (g := id)]
      · simp
      · intro kv hkv
        rw [if_neg]; rfl
        intro e
        exact h (List.any_eq_true.mpr ⟨kv, hkv, decide_eq_true e⟩)
  · rw [if_neg q]
    simp only [List.any_cons, q, decide_false, Bool.false_or, List.map_cons, if_false]
    split <;> rfl
theorem dk_put {z : V} : putK [(kCells, c), (kAt, x), (kSum, y)] kAt z = [(kCells, c), (kAt, z), (kSum, y)] := by
  rw [putK_cons, if_neg k_ca, putK_cons, if_pos rfl]
  have h : ¬ ([(kSum, y)].any fun kv => decide (kv.1 = kAt)) = true := by
    simp only [List.any_cons, List.any_nil, Bool.or_false, decide_eq_true_eq]
    exact fun e => k_as e.symm
  rw [if_neg h]
theorem dg_cells (h : H a = some (.dK [(kCells, c), (kAt, x), (kSum, y)])) : DGet H a (.str "cells") (some c) := .inl ⟨_, kCells, .inl h, rfl, dk_cells.symm⟩
theorem dg_at (h : H a = some (.dK [(kCells, c), (kAt, x), (kSum, y)])) : DGet H a (.str "at") (some x) := .inl ⟨_, kAt, .inl h, rfl, dk_at.symm⟩
theorem dg_sum (h : H a = some (.dK [(kCells, c), (kAt, x), (kSum, y)])) : DGet H a (.str "sum") (some y) := .inl ⟨_, kSum, .inl h, rfl, dk_sum.symm⟩
theorem dp_at {z : V} (h : H a = some (.dK [(kCells, c), (kAt, x), (kSum, y)])) : DPut H a (.str "at") z (upd H a (.dK [(kCells, c), (kAt, z), (kSum, y)])) := .inl ⟨_, kAt, h, rfl, (by show 3 < sizeLine; rw [sizeLine_eq]; decide), by rw [dk_put]⟩
end

theorem cut63 (ns : List Int) : cutV (ns.map V.int) none (some 63) = (ns.take 63).map V.int := by
  unfold cutV
  rw [HT.sIx_none, show (63 : Int) = ((63 : Nat) : Int) from rfl, HT.sIx_nat, List.drop_zero, Nat.sub_zero, List.map_take, List.length_map]
  by_cases h : 63 ≤ ns.length
  · rw [Nat.min_eq_left h]
  · rw [Nat.min_eq_right (by omega)]
    rw [List.take_of_length_le (by simp), List.take_of_length_le (by simp; omega)]
theorem dk_merge {c x y : V} : mergeK [] [(kCells, c), (kAt, x), (kSum, y)] = [(kCells, c), (kAt, x), (kSum, y)] := by
  have n1 : putK ([] : List (Key × V)) kCells c = [(kCells, c)] := rfl
  have n2 : putK [(kCells, c)] kAt x = [(kCells, c), (kAt, x)] := by rw [putK_cons, if_neg k_ca]; rfl
  have n3 : putK [(kCells, c), (kAt, x)] kSum y = [(kCells, c), (kAt, x), (kSum, y)] := by rw [putK_cons, if_neg k_cs, putK_cons, if_neg k_as]; rfl
  show putK (putK (putK [] kCells c) kAt x) kSum y = _
  rw [n1, n2, n3]
/-- the deck is made -/
theorem Rep.newDk {K : PySem.W.Frag} {H H' : Hp} {S : Sx} {F : Hp} {cells : List Int} {at_ sum : Int} {a c : Addr}
    (r : Rep K [] H S F [] none) (g : Sub H H') (na : H a = none) (nc : H c = none) (ha : H' a = some (.dK [(kCells, .ref c), (kAt, .int at_), (kSum, .int sum)])) (hc : H' c = some (.lst (cells.map V.int))) :
    Rep K [] H' ⟨S.hp, some a⟩ F [] (some (cells, at_, sum)) :=
  ⟨r.sh.trans g, r.fh.trans g, r.fs, rfl, fun i s e => by simp at e, fun i j d e p h => by simp at h, ⟨a, c, rfl, ha, hc, r.sh.none na, r.sh.none nc, r.fh.none na, r.fh.none nc, fun ⟨i, d, h, _⟩ => by simp at h, fun ⟨i, d, h, _⟩ => by simp at h⟩⟩
end WS
namespace WS
open PySem PySem.Spec PyProof.Rows L2
variable {W : WX}

/-! ## own dicts: statements -/
section
variable {X : Cx} {e v : Expr} {f fv : E} {i : Nat} {x : Str} {ks : List Key} {fs : EL} {keys : List (Option Expr)} {vals : List Expr} {pos p1 p2 p3 : Pos}
theorem tsv_ownD {trs : List (TE × TE)} {σ : L2.St} {H : Hp} {D' : Ends} (h2 : ∀ (σ : L2.St) (H : Hp) (Q : List (V × V) → Hp → Prop), TAv X.K fs σ H (fun vs H' => Q ((ks.map kV).zip vs) H') → tPairs trs σ H Q)
    (hnd : ks.Nodup) (h15 : ks.length ≤ 15) (h : TSv X.K W (sOwnD i ks fs) D' σ H) : tAsg (tDisp trs) (gName i) D' σ H := by
  obtain ⟨S, F, ρ, dk, o, ρ', dk', R, e, q⟩ := h
  unfold sOwnD at e
  cases ea : fs ρ dk with
  | none => rw [ea] at e; cases e
  | some x =>
    obtain ⟨ds, ρ1, k1⟩ := x
    rw [ea] at e
    simp only [Option.bind_some] at e
    split at e
    case isFalse => cases e
    rename_i hlen
    cases e
    refine disp_run h2 hnd h15 R ea hlen fun p H2 S2 kvs hp nF l2 R2 e1 rv => ?_
    exact q _ _ S2 l2 (R2.ownF nF ⟨kvs, upd_same, e1, rv⟩)
theorem s_ownD (h : DPs X p2 keys vals ks fs) (hall : keys.all (·.isSome) = true) (hl : keys.length = vals.length) (h0 : keys ≠ []) (h15 : keys.length ≤ 15) (hkl : ks.length ≤ 15) (hnd : ks.Nodup) (hN : X.N.Nodup) (hi : X.N[i]? = some x) (hx : Loc X.env.scope x) (hf : X.fn x = true ∨ X.env.scope.names.lookup x = some .local)
    (hs : swapsWithSole [.Name x p1] (.Dict keys vals p2) pos.line X.env = pure false) (hw : swappedStores [.Name x p1] (.Dict keys vals p2) X.env = pure none) (h1 : (assignEach [.Name x p1] X.env).map (·.2) = [assign (.Name x p1) X.env]) :
    PS X (.Assign [.Name x p1] (.Dict keys vals p2) pos) (TSv X.K W (sOwnD i ks fs)) := by
  obtain ⟨trs, h1', h2⟩ := h
  exact (ps_asg (pe_disp h1' hall hl h0 h15) (pg_name hN hi hx hf) hs hw h1).imp fun _ _ _ h => tsv_ownD h2 hnd hkl h
def sOwnD0 (i : Nat) : SS := fun ρ k => some (.nx, ρ.set i (.own (.dct [] [])), k)
theorem s_ownD0 (hN : X.N.Nodup) (hi : X.N[i]? = some x) (hx : Loc X.env.scope x) (hf : X.fn x = true ∨ X.env.scope.names.lookup x = some .local)
    (hs : swapsWithSole [.Name x p1] (.Dict [] [] p2) pos.line X.env = pure false) (hw : swappedStores [.Name x p1] (.Dict [] [] p2) X.env = pure none) (h1 : (assignEach [.Name x p1] X.env).map (·.2) = [assign (.Name x p1) X.env]) :
    PS X (.Assign [.Name x p1] (.Dict [] [] p2) pos) (TSv X.K W (sOwnD0 i)) :=
  (ps_asg pe_dnewK (pg_name hN hi hx hf) hs hw h1).imp fun D' σ H h => by
    obtain ⟨S, F, ρ, dk, o, ρ', dk', R, e, q⟩ := h
    cases e
    intro p hp
    exact q _ _ S (Le.refl S) (R.putOwn (Sub.new hp) hp ⟨[], upd_same, rfl, .nil⟩)
theorem s_put (hu : X.A.units + 1 < cLine) (hN : X.N[i]? = some x) (hv : Vis X.env.scope x) (he : PE X e (TEv X.K f)) (hv' : PE X v (TEv X.K fv)) (hs : swapsWith v (some (.Subscript (.Name x p1) e p2)) pos.line X.env = pure false) (hd : (x == ("__debug__" : Str)) = false := by decide) (hcd : (x == ("__classdict__" : Str)) = false := by decide) :
    PS X (.Assign [.Subscript (.Name x p1) e p2] v pos) (TSv X.K W (sPut i f fv)) := (ps_dput hu (pe_var hN hv hd hcd) he hv' hs).imp fun _ _ _ h => tsv_put h
end

/-! ## defs by their names -/
structure Cw (P : Program) (w : World) (K : PySem.W.Frag) (mg : Str → Option Value) (base : Heap) (k : Nat) (x : Str) (n : Nat) (F : Fn) : Prop where
  ex : ∃ (f : Addr) (fd : FuncData) (ps : List Str), FnG P w K mg base CX0 k f fd ps (spS K n F) ∧ mg x = some (.ref f) ∧ PySem.W.keepIn K (.ref f) = true ∧ Binds K fd ps []
/-- a def stands under its name -/
def Df (K : PySem.W.Frag) (mg : Str → Option Value) (x : Str) (st : Stmt) : Prop := ∃ (f : Addr) (fd : FuncData), Fun K x x st f fd ∧ mg x = some (.ref f)
section
variable {P : Program} {w : World} {K : PySem.W.Frag} {mg : Str → Option Value} {base : Heap} {k : Nat}
theorem Cw.up {j k n : Nat} {x : Str} {F : Fn} (c : Cw P w K mg base j x n F) (h : j ≤ k) : Cw P w K mg base k x n F := by
  obtain ⟨f, fd, ps, a, b⟩ := c.ex
  exact ⟨f, fd, ps, a.up h, b⟩
theorem cl_mk {x : Str} {st : Stmt} {N ps : List Str} (body : SS) (n m : Nat) (D : Df K mg x st) (SC : FnScope N ps (defScope st)) (hps : ps.length = n) (hm : N.length = m) (hN : n ≤ m)
    (hbind : ∀ (kV doc pm : Value) (an : Option Addr) (cdv ct : Value) (us : List Value), us.length = ps.length → bindArgs (PySem.W.fnOf x x (defArgs st) (defBody st) (defScope st) .none kV doc pm an cdv ct) ⟨us, []⟩ = pure (ps.zip us))
    (hb : ∀ (f : Addr) (cdv : Value) (A : Around) (outer : List Env) (s : Shared) (H : Hp) (E : XK), A.guards = some [] → Room k (A.deeper (envOfC x (defScope st) s.heap.objs.size f cdv)) →
      PSs (cxOf CX0 P w K mg base N x (defScope st) f cdv A outer s H E).nox (defBody st) (TSv K W0 body)) : Cw P w K mg base (k + 1) x n (runS m body) := by
  subst hm
  obtain ⟨f, fd, Fu, m⟩ := D
  exact ⟨f, fd, ps, fnS n hps hN Fu SC (hb f), m, Fu.kp, Fu.binds hbind⟩
/-- never asked -/
theorem cl_none {x : Str} {st : Stmt} {N ps : List Str} (n : Nat) (D : Df K mg x st) (SC : FnScope N ps (defScope st)) (hps : ps.length = n)
    (hbind : ∀ (kV doc pm : Value) (an : Option Addr) (cdv ct : Value) (us : List Value), us.length = ps.length → bindArgs (PySem.W.fnOf x x (defArgs st) (defBody st) (defScope st) .none kV doc pm an cdv ct) ⟨us, []⟩ = pure (ps.zip us)) : Cw P w K mg base (k + 1) x n (fun _ _ => none) := by
  obtain ⟨f, fd, Fu, m⟩ := D
  refine ⟨f, fd, ps, fnG0 Fu SC (fun vs H Q E h => h.1.trans hps.symm) fun cdv A outer s H vs Q E hg hr h => ?_, m, Fu.kp, Fu.binds hbind⟩
  obtain ⟨_, _, _, _, _, _, _, _, _, e, _⟩ := h
  cases e
end
section
variable {X : Cx} {x : Str} {p pos : Pos} {a : Expr} {es : List Expr} {fs : EL} {n j : Nat} {F : Fn}
theorem d_callC (c : Cw X.prog X.w X.K X.mg X.base j x n F) (hgu : X.A.guards = some []) (hr : Room j X.A) (hg : Gl X x) (ha : PA X (a :: es) (TAv X.K fs)) (hdb : (x == ("__debug__" : Str)) = false) (he : starEach (a :: es) X.env = (false, eval a X.env) :: starEach es X.env) (hpl : (backTo pos (starEach es X.env)).any (·.1) = false) :
    PE X (.Call (.Name x p) (a :: es) [] pos) (TEv X.K (eCallF n F fs)) := by
  obtain ⟨f, fd, ps, G, m, hk, hb⟩ := c.ex
  exact d_call G hgu hr hg m hk hb ha hdb he hpl
theorem d_callC0 (c : Cw X.prog X.w X.K X.mg X.base j x n F) (hgu : X.A.guards = some []) (hr : Room j X.A) (hg : Gl X x) (hdb : (x == ("__debug__" : Str)) = false) :
    PE X (.Call (.Name x p) [] [] pos) (TEv X.K (eCallF n F aNil)) := by
  obtain ⟨f, fd, ps, G, m, hk, hb⟩ := c.ex
  exact d_call0 G hgu hr hg m hk hb hdb
/-- a module's data -/
def Gk (K : PySem.W.Frag) (mg : Str → Option Value) (x : Str) (d : D) : Prop := ∃ u, mg x = some u ∧ RpK K u d
theorem d_gk {d : D} (h : Gk X.K X.mg x d) (hg : Gl X x) (hd : (x == ("__debug__" : Str)) = false) : PE X (.Name x pos) (TEv X.K (eC d)) := by
  obtain ⟨u, m, v, r, q⟩ := h
  exact d_glob hg m r q hd
/-- a module's table -/
def Gt (K : PySem.W.Frag) (w : World) (mg : Str → Option Value) (x : Str) (tab : List (Str × D)) : Prop := ∃ a, mg x = some (.ref a) ∧ KTab K w a tab
def gTb (tab : List (Str × D)) : D → Option D
  | .str z => tab.lookup z
  | _ => none
def gTbIn (neg : Bool) (tab : List (Str × D)) : D → Option D
  | .str z => some (.bl (neg != (tab.lookup z).isSome))
  | _ => none
variable {tab : List (Str × D)} {b : Expr} {fb : E}
theorem d_gt (h : Gt X.K X.w X.mg x tab) (hg : Gl X x) (hb : PE X b (TEv X.K fb)) (hs : NoSl b) (hd : (x == ("__debug__" : Str)) = false) : PE X (.Subscript (.Name x p) b pos) (TEv X.K (eUn (gTb tab) fb)) := by
  obtain ⟨a, m, T⟩ := h
  refine (d_tab T (d_glob hg m (v := .ref a) (d := .obj a) rfl (fun S => .obj a) hd) hb hs).imp fun σ H Q h => ?_
  obtain ⟨S, F, ρ, dk, d, ρ', dk', R, e, q⟩ := h
  refine ⟨S, F, ρ, dk, d, ρ', dk', R, ?_, q⟩
  rw [← e]
  unfold eOp eUn eC
  simp only [Option.bind_some]
  cases fb ρ dk with
  | none => rfl
  | some y =>
    simp only [Option.bind_some]
    congr 1
    unfold gTb gTab
    cases y.1 <;> simp
theorem d_gtIn (h : Gt X.K X.w X.mg x tab) (hg : Gl X x) (hb : PE X b (TEv X.K fb)) (hd : (x == ("__debug__" : Str)) = false) (hm : behindInMarks .In (.Name x p) = false := by kernel_rfl!) : PE X (.Compare b [.In] [.Name x p] pos) (TEv X.K (eUn (gTbIn false tab) fb)) := by
  obtain ⟨a, m, T⟩ := h
  refine (d_cmp (x_tabIn T) hb (d_glob hg m (v := .ref a) (d := .obj a) rfl (fun S => .obj a) hd) hm).imp fun σ H Q h => ?_
  obtain ⟨S, F, ρ, dk, d, ρ', dk', R, e, q⟩ := h
  refine ⟨S, F, ρ, dk, d, ρ', dk', R, ?_, q⟩
  rw [← e]
  unfold eOp eUn eC
  cases fb ρ dk with
  | none => rfl
  | some y =>
    simp only [Option.bind_some]
    congr 1
    unfold gTbIn gTabIn
    cases y.1 <;> simp
theorem d_gtNotIn (h : Gt X.K X.w X.mg x tab) (hg : Gl X x) (hb : PE X b (TEv X.K fb)) (hd : (x == ("__debug__" : Str)) = false) (hm : behindInMarks .NotIn (.Name x p) = false := by kernel_rfl!) : PE X (.Compare b [.NotIn] [.Name x p] pos) (TEv X.K (eUn (gTbIn true tab) fb)) := by
  obtain ⟨a, m, T⟩ := h
  refine (d_cmp (x_tabNotIn T) hb (d_glob hg m (v := .ref a) (d := .obj a) rfl (fun S => .obj a) hd) hm).imp fun σ H Q h => ?_
  obtain ⟨S, F, ρ, dk, d, ρ', dk', R, e, q⟩ := h
  refine ⟨S, F, ρ, dk, d, ρ', dk', R, ?_, q⟩
  rw [← e]
  unfold eOp eUn eC
  cases fb ρ dk with
  | none => rfl
  | some y =>
    simp only [Option.bind_some]
    congr 1
    unfold gTbIn gTabIn
    cases y.1 <;> simp
end
/-- a value's rule as a test's -/
theorem q_in {X : Cx} {a b : Expr} {op : CmpOp} {f : E} {pos : Pos} (h : PE X (.Compare a [op] [b] pos) (TEv X.K f)) (he : ∀ whole, isTrue (.Compare a [op] [b] pos) X.env whole = (do let v ← whole; standAt pos; holding [v] (truthy v)) := by intro _; kernel_rfl!) : PT X (.Compare a [op] [b] pos) (TTv X.K f) := q_val h he
end WS
namespace WS
open PySem PySem.Spec PyProof.Rows L2
theorem hu100_of {A : Around} {k : Nat} (hr : Room k A) : A.units + 100 < cLine := Nat.lt_of_le_of_lt (by omega) hr.un
theorem hu65_of {A : Around} {k : Nat} (hr : Room k A) : A.units + 65 < cLine := Nat.lt_of_le_of_lt (by omega) hr.un
end WS
namespace WS
open PySem PySem.Spec PyProof.Rows L2
theorem gl_of {X : Cx} {x : Str} (h : X.env.kindOf x = some .globalImplicit) : Gl X x := h
end WS
namespace WS
open PySem PySem.Spec PyProof.Rows L2

theorem nrfl {α : Sort _} {a b : α} (h : a = b) : a = b := h
/-! ## how the terms are reckoned: what stands behind is kept from being reckoned too soon -/
structure Tg1 {α β : Type} (f : α → β) where
structure Tg2 {α : Type} (t f : α) where
def _root_.Option.bnd {α β : Type} (a : Option α) (f : α → Option β) (_ : Tg1 f := ⟨⟩) : Option β := a.bind f
def _root_.Option.mpd {α β : Type} (a : Option α) (f : α → β) (_ : Tg1 f := ⟨⟩) : Option β := a.map f
theorem bnd_some {α β : Type} {x : α} {f : α → Option β} {t : Tg1 f} : (some x).bnd f t = f x := nrfl rfl
theorem bnd_none {α β : Type} {f : α → Option β} {t : Tg1 f} : (none : Option α).bnd f t = none := nrfl rfl
theorem mpd_some {α β : Type} {x : α} {f : α → β} {t : Tg1 f} : (some x).mpd f t = some (f x) := nrfl rfl
theorem mpd_none {α β : Type} {f : α → β} {t : Tg1 f} : (none : Option α).mpd f t = none := nrfl rfl
/-- by a truth -/
def bm {α : Type} (d : D) (t f : Option α) (_ : Tg2 t f := ⟨⟩) : Option α := match d with
  | .bl true => t
  | .bl false => f
  | _ => none
theorem bm_t {α : Type} {t f : Option α} {q : Tg2 t f} : bm (.bl true) t f q = t := nrfl rfl
theorem bm_f {α : Type} {t f : Option α} {q : Tg2 t f} : bm (.bl false) t f q = f := nrfl rfl
theorem bm_b {α : Type} {c : Bool} {t f : Option α} {q : Tg2 t f} : bm (.bl c) t f q = if c = true then t else f := by cases c <;> rfl
/-- behind a statement -/
def om (o : Out × List Sl × Dk) (f : List Sl → Dk → Option (Out × List Sl × Dk)) (_ : Tg1 f := ⟨⟩) : Option (Out × List Sl × Dk) := match o.1 with
  | .nx => f o.2.1 o.2.2
  | _ => some o
section
variable {ρ : List Sl} {k : Dk} {f : List Sl → Dk → Option (Out × List Sl × Dk)} {q : Tg1 f} {d : D}
theorem om_nx : om (.nx, ρ, k) f q = f ρ k := nrfl rfl
theorem om_rt : om (.rt d, ρ, k) f q = some (.rt d, ρ, k) := nrfl rfl
theorem om_bk : om (.bk, ρ, k) f q = some (.bk, ρ, k) := nrfl rfl
theorem om_ct : om (.ct, ρ, k) f q = some (.ct, ρ, k) := nrfl rfl
end
def fin (o : Out × List Sl × Dk) : Option (D × Dk) := match o.1 with
  | .rt d => some (d, o.2.2)
  | .nx => some (.non, o.2.2)
  | _ => none
theorem fin_nx {ρ : List Sl} {k : Dk} : fin (.nx, ρ, k) = some (.non, k) := nrfl rfl
theorem fin_rt {d : D} {ρ : List Sl} {k : Dk} : fin (.rt d, ρ, k) = some (d, k) := nrfl rfl
def st0 (n : Nat) (ds : List D) : List Sl := ds.map Sl.val ++ List.replicate (n - ds.length) Sl.no
section
variable {ρ : List Sl} {k : Dk} {a b c : E} {fs : EL} {g : D → D → Option D} {u : D → Option D} {gs : List D → Option D} {d x y z : D} {s t : SS} {n i : Nat} {ds : List D} {F : Fn} {tg : Tg}
theorem ap_run : runS n s ds k = (s (st0 n ds) k).bind fin := nrfl rfl
theorem ap_C : eC d ρ k = some (d, ρ, k) := nrfl rfl
theorem ap_Op : eOp g a b ρ k = (a ρ k).bnd fun x => (b x.2.1 x.2.2).bnd fun y => (g x.1 y.1).mpd fun z => (z, y.2.1, y.2.2) := nrfl rfl
theorem ap_Un : eUn u a ρ k = (a ρ k).bnd fun x => (u x.1).mpd fun z => (z, x.2.1, x.2.2) := nrfl rfl
theorem ap_nil : aNil ρ k = some ([], ρ, k) := nrfl rfl
theorem ap_cons : aCons a fs ρ k = (a ρ k).bnd fun x => (fs x.2.1 x.2.2).mpd fun y => (x.1 :: y.1, y.2.1, y.2.2) := nrfl rfl
theorem ap_App : eApp gs fs ρ k = (fs ρ k).bnd fun x => (gs x.1).mpd fun z => (z, x.2.1, x.2.2) := nrfl rfl
theorem ap_And : eAnd a b ρ k = (a ρ k).bnd fun x => bm x.1 (b x.2.1 x.2.2) (some (.bl false, x.2.1, x.2.2)) := nrfl rfl
theorem ap_Or : eOr a b ρ k = (a ρ k).bnd fun x => bm x.1 (some (.bl true, x.2.1, x.2.2)) (b x.2.1 x.2.2) := by
  unfold eOr bm
  congr
  funext x
  obtain ⟨d, r⟩ := x
  cases d <;> try rfl
  rename_i b
  cases b <;> rfl
theorem ap_Not : gNot (.bl false) = some (.bl true) := nrfl rfl
theorem ap_Not' : gNot (.bl true) = some (.bl false) := nrfl rfl
theorem ap_NotB {c : Bool} : gNot (.bl c) = some (.bl (!c)) := nrfl rfl
theorem ap_If : eIf c a b ρ k = (c ρ k).bnd fun x => bm x.1 (a x.2.1 x.2.2) (b x.2.1 x.2.2) := nrfl rfl
theorem ap_sNil : sNil ρ k = some (.nx, ρ, k) := nrfl rfl
theorem ap_sSeq : sSeq s t ρ k = (s ρ k).bnd fun x => om x t := nrfl rfl
theorem ap_sRet : sRet a ρ k = (a ρ k).bnd fun x => some (.rt x.1, x.2.1, x.2.2) := nrfl rfl
theorem ap_sDrop : sDrop a ρ k = (a ρ k).bnd fun x => some (.nx, x.2.1, x.2.2) := nrfl rfl
theorem ap_sIf : sIf c s t ρ k = (c ρ k).bnd fun x => bm x.1 (s x.2.1 x.2.2) (t x.2.1 x.2.2) := nrfl rfl
theorem ap_sAsg : sAsg tg a ρ k = (a ρ k).bnd fun x => (tg x.1 x.2.1).bnd fun ρ' => some (.nx, ρ', x.2.2) := nrfl rfl
theorem ap_gSet : gSet i d ρ = some (ρ.set i (.val d)) := nrfl rfl
theorem ap_call : eCallF n F fs ρ k = (fs ρ k).bnd fun x => if x.1.length = n then (F x.1 x.2.2).mpd fun y => (y.1, x.2.1, y.2) else none := nrfl rfl
theorem ap_chain {g' : D → D → Option D} : eChain g g' a b c ρ k = (a ρ k).bnd fun x => (b x.2.1 x.2.2).bnd fun y => (g x.1 y.1).bnd fun t => bm t ((c y.2.1 y.2.2).bnd fun z => (g' y.1 z.1).mpd fun u => (u, z.2.1, z.2.2)) (some (.bl false, y.2.1, y.2.2)) := nrfl rfl
theorem ap_pair {g1 g2 : Tg} : gPair g1 g2 (.tup [x, y]) ρ = (g1 x ρ).bnd fun ρ1 => g2 y ρ1 := nrfl rfl

theorem ap_var {s0 : Sl} : eVar 0 (.val d :: ρ) k = some (d, .val d :: ρ, k) := nrfl rfl
theorem st0_c {n : Nat} {x : D} {ds : List D} : st0 (n + 1) (x :: ds) = .val x :: st0 n ds := by
  unfold st0
  rw [List.map_cons, List.length_cons, Nat.add_sub_add_right]; rfl
theorem st0_n {n : Nat} : st0 (n + 1) [] = .no :: st0 n [] := nrfl rfl
theorem st0_0 : st0 0 [] = [] := nrfl rfl
theorem vv_0 : eVar 0 (.val d :: ρ) k = some (d, .val d :: ρ, k) := nrfl rfl
theorem vo_0 : eVar 0 (.own d :: ρ) k = some (d, .val d :: ρ, k) := nrfl rfl
theorem ix_0 {s : Sl} : (s :: ρ)[0]? = some s := nrfl rfl
theorem sx_0 {s v : Sl} : (s :: ρ).set 0 v = v :: ρ := nrfl rfl
theorem vv_1 {s0 : Sl} : eVar 1 (s0 :: .val d :: ρ) k = some (d, s0 :: .val d :: ρ, k) := nrfl rfl
theorem vo_1 {s0 : Sl} : eVar 1 (s0 :: .own d :: ρ) k = some (d, s0 :: .val d :: ρ, k) := nrfl rfl
theorem ix_1 {s : Sl} {s0 : Sl} : (s0 :: s :: ρ)[1]? = some s := nrfl rfl
theorem sx_1 {s v : Sl} {s0 : Sl} : (s0 :: s :: ρ).set 1 v = s0 :: v :: ρ := nrfl rfl
theorem vv_2 {s0 s1 : Sl} : eVar 2 (s0 :: s1 :: .val d :: ρ) k = some (d, s0 :: s1 :: .val d :: ρ, k) := nrfl rfl
theorem vo_2 {s0 s1 : Sl} : eVar 2 (s0 :: s1 :: .own d :: ρ) k = some (d, s0 :: s1 :: .val d :: ρ, k) := nrfl rfl
theorem ix_2 {s : Sl} {s0 s1 : Sl} : (s0 :: s1 :: s :: ρ)[2]? = some s := nrfl rfl
theorem sx_2 {s v : Sl} {s0 s1 : Sl} : (s0 :: s1 :: s :: ρ).set 2 v = s0 :: s1 :: v :: ρ := nrfl rfl
theorem vv_3 {s0 s1 s2 : Sl} : eVar 3 (s0 :: s1 :: s2 :: .val d :: ρ) k = some (d, s0 :: s1 :: s2 :: .val d :: ρ, k) := nrfl rfl
theorem vo_3 {s0 s1 s2 : Sl} : eVar 3 (s0 :: s1 :: s2 :: .own d :: ρ) k = some (d, s0 :: s1 :: s2 :: .val d :: ρ, k) := nrfl rfl
theorem ix_3 {s : Sl} {s0 s1 s2 : Sl} : (s0 :: s1 :: s2 :: s :: ρ)[3]? = some s := nrfl rfl
theorem sx_3 {s v : Sl} {s0 s1 s2 : Sl} : (s0 :: s1 :: s2 :: s :: ρ).set 3 v = s0 :: s1 :: s2 :: v :: ρ := nrfl rfl
theorem vv_4 {s0 s1 s2 s3 : Sl} : eVar 4 (s0 :: s1 :: s2 :: s3 :: .val d :: ρ) k = some (d, s0 :: s1 :: s2 :: s3 :: .val d :: ρ, k) := nrfl rfl
theorem vo_4 {s0 s1 s2 s3 : Sl} : eVar 4 (s0 :: s1 :: s2 :: s3 :: .own d :: ρ) k = some (d, s0 :: s1 :: s2 :: s3 :: .val d :: ρ, k) := nrfl rfl
theorem ix_4 {s : Sl} {s0 s1 s2 s3 : Sl} : (s0 :: s1 :: s2 :: s3 :: s :: ρ)[4]? = some s := nrfl rfl
theorem sx_4 {s v : Sl} {s0 s1 s2 s3 : Sl} : (s0 :: s1 :: s2 :: s3 :: s :: ρ).set 4 v = s0 :: s1 :: s2 :: s3 :: v :: ρ := nrfl rfl
theorem vv_5 {s0 s1 s2 s3 s4 : Sl} : eVar 5 (s0 :: s1 :: s2 :: s3 :: s4 :: .val d :: ρ) k = some (d, s0 :: s1 :: s2 :: s3 :: s4 :: .val d :: ρ, k) := nrfl rfl
theorem vo_5 {s0 s1 s2 s3 s4 : Sl} : eVar 5 (s0 :: s1 :: s2 :: s3 :: s4 :: .own d :: ρ) k = some (d, s0 :: s1 :: s2 :: s3 :: s4 :: .val d :: ρ, k) := nrfl rfl
theorem ix_5 {s : Sl} {s0 s1 s2 s3 s4 : Sl} : (s0 :: s1 :: s2 :: s3 :: s4 :: s :: ρ)[5]? = some s := nrfl rfl
theorem sx_5 {s v : Sl} {s0 s1 s2 s3 s4 : Sl} : (s0 :: s1 :: s2 :: s3 :: s4 :: s :: ρ).set 5 v = s0 :: s1 :: s2 :: s3 :: s4 :: v :: ρ := nrfl rfl
theorem vv_6 {s0 s1 s2 s3 s4 s5 : Sl} : eVar 6 (s0 :: s1 :: s2 :: s3 :: s4 :: s5 :: .val d :: ρ) k = some (d, s0 :: s1 :: s2 :: s3 :: s4 :: s5 :: .val d :: ρ, k) := nrfl rfl
theorem vo_6 {s0 s1 s2 s3 s4 s5 : Sl} : eVar 6 (s0 :: s1 :: s2 :: s3 :: s4 :: s5 :: .own d :: ρ) k = some (d, s0 :: s1 :: s2 :: s3 :: s4 :: s5 :: .val d :: ρ, k) := nrfl rfl
theorem ix_6 {s : Sl} {s0 s1 s2 s3 s4 s5 : Sl} : (s0 :: s1 :: s2 :: s3 :: s4 :: s5 :: s :: ρ)[6]? = some s := nrfl rfl
theorem sx_6 {s v : Sl} {s0 s1 s2 s3 s4 s5 : Sl} : (s0 :: s1 :: s2 :: s3 :: s4 :: s5 :: s :: ρ).set 6 v = s0 :: s1 :: s2 :: s3 :: s4 :: s5 :: v :: ρ := nrfl rfl
theorem vv_7 {s0 s1 s2 s3 s4 s5 s6 : Sl} : eVar 7 (s0 :: s1 :: s2 :: s3 :: s4 :: s5 :: s6 :: .val d :: ρ) k = some (d, s0 :: s1 :: s2 :: s3 :: s4 :: s5 :: s6 :: .val d :: ρ, k) := nrfl rfl
theorem vo_7 {s0 s1 s2 s3 s4 s5 s6 : Sl} : eVar 7 (s0 :: s1 :: s2 :: s3 :: s4 :: s5 :: s6 :: .own d :: ρ) k = some (d, s0 :: s1 :: s2 :: s3 :: s4 :: s5 :: s6 :: .val d :: ρ, k) := nrfl rfl
theorem ix_7 {s : Sl} {s0 s1 s2 s3 s4 s5 s6 : Sl} : (s0 :: s1 :: s2 :: s3 :: s4 :: s5 :: s6 :: s :: ρ)[7]? = some s := nrfl rfl
theorem sx_7 {s v : Sl} {s0 s1 s2 s3 s4 s5 s6 : Sl} : (s0 :: s1 :: s2 :: s3 :: s4 :: s5 :: s6 :: s :: ρ).set 7 v = s0 :: s1 :: s2 :: s3 :: s4 :: s5 :: s6 :: v :: ρ := nrfl rfl
theorem vv_8 {s0 s1 s2 s3 s4 s5 s6 s7 : Sl} : eVar 8 (s0 :: s1 :: s2 :: s3 :: s4 :: s5 :: s6 :: s7 :: .val d :: ρ) k = some (d, s0 :: s1 :: s2 :: s3 :: s4 :: s5 :: s6 :: s7 :: .val d :: ρ, k) := nrfl rfl
theorem vo_8 {s0 s1 s2 s3 s4 s5 s6 s7 : Sl} : eVar 8 (s0 :: s1 :: s2 :: s3 :: s4 :: s5 :: s6 :: s7 :: .own d :: ρ) k = some (d, s0 :: s1 :: s2 :: s3 :: s4 :: s5 :: s6 :: s7 :: .val d :: ρ, k) := nrfl rfl
theorem ix_8 {s : Sl} {s0 s1 s2 s3 s4 s5 s6 s7 : Sl} : (s0 :: s1 :: s2 :: s3 :: s4 :: s5 :: s6 :: s7 :: s :: ρ)[8]? = some s := nrfl rfl
theorem sx_8 {s v : Sl} {s0 s1 s2 s3 s4 s5 s6 s7 : Sl} : (s0 :: s1 :: s2 :: s3 :: s4 :: s5 :: s6 :: s7 :: s :: ρ).set 8 v = s0 :: s1 :: s2 :: s3 :: s4 :: s5 :: s6 :: s7 :: v :: ρ := nrfl rfl
theorem vv_9 {s0 s1 s2 s3 s4 s5 s6 s7 s8 : Sl} : eVar 9 (s0 :: s1 :: s2 :: s3 :: s4 :: s5 :: s6 :: s7 :: s8 :: .val d :: ρ) k = some (d, s0 :: s1 :: s2 :: s3 :: s4 :: s5 :: s6 :: s7 :: s8 :: .val d :: ρ, k) := nrfl rfl
theorem vo_9 {s0 s1 s2 s3 s4 s5 s6 s7 s8 : Sl} : eVar 9 (s0 :: s1 :: s2 :: s3 :: s4 :: s5 :: s6 :: s7 :: s8 :: .own d :: ρ) k = some (d, s0 :: s1 :: s2 :: s3 :: s4 :: s5 :: s6 :: s7 :: s8 :: .val d :: ρ, k) := nrfl rfl
theorem ix_9 {s : Sl} {s0 s1 s2 s3 s4 s5 s6 s7 s8 : Sl} : (s0 :: s1 :: s2 :: s3 :: s4 :: s5 :: s6 :: s7 :: s8 :: s :: ρ)[9]? = some s := nrfl rfl
theorem sx_9 {s v : Sl} {s0 s1 s2 s3 s4 s5 s6 s7 s8 : Sl} : (s0 :: s1 :: s2 :: s3 :: s4 :: s5 :: s6 :: s7 :: s8 :: s :: ρ).set 9 v = s0 :: s1 :: s2 :: s3 :: s4 :: s5 :: s6 :: s7 :: s8 :: v :: ρ := nrfl rfl
theorem vv_10 {s0 s1 s2 s3 s4 s5 s6 s7 s8 s9 : Sl} : eVar 10 (s0 :: s1 :: s2 :: s3 :: s4 :: s5 :: s6 :: s7 :: s8 :: s9 :: .val d :: ρ) k = some (d, s0 :: s1 :: s2 :: s3 :: s4 :: s5 :: s6 :: s7 :: s8 :: s9 :: .val d :: ρ, k) := nrfl rfl
theorem vo_10 {s0 s1 s2 s3 s4 s5 s6 s7 s8 s9 : Sl} : eVar 10 (s0 :: s1 :: s2 :: s3 :: s4 :: s5 :: s6 :: s7 :: s8 :: s9 :: .own d :: ρ) k = some (d, s0 :: s1 :: s2 :: s3 :: s4 :: s5 :: s6 :: s7 :: s8 :: s9 :: .val d :: ρ, k) := nrfl rfl
theorem ix_10 {s : Sl} {s0 s1 s2 s3 s4 s5 s6 s7 s8 s9 : Sl} : (s0 :: s1 :: s2 :: s3 :: s4 :: s5 :: s6 :: s7 :: s8 :: s9 :: s :: ρ)[10]? = some s := nrfl rfl
theorem sx_10 {s v : Sl} {s0 s1 s2 s3 s4 s5 s6 s7 s8 s9 : Sl} : (s0 :: s1 :: s2 :: s3 :: s4 :: s5 :: s6 :: s7 :: s8 :: s9 :: s :: ρ).set 10 v = s0 :: s1 :: s2 :: s3 :: s4 :: s5 :: s6 :: s7 :: s8 :: s9 :: v :: ρ := nrfl rfl
theorem vv_11 {s0 s1 s2 s3 s4 s5 s6 s7 s8 s9 s10 : Sl} : eVar 11 (s0 :: s1 :: s2 :: s3 :: s4 :: s5 :: s6 :: s7 :: s8 :: s9 :: s10 :: .val d :: ρ) k = some (d, s0 :: s1 :: s2 :: s3 :: s4 :: s5 :: s6 :: s7 :: s8 :: s9 :: s10 :: .val d :: ρ, k) := nrfl rfl
theorem vo_11 {s0 s1 s2 s3 s4 s5 s6 s7 s8 s9 s10 : Sl} : eVar 11 (s0 :: s1 :: s2 :: s3 :: s4 :: s5 :: s6 :: s7 :: s8 :: s9 :: s10 :: .own d :: ρ) k = some (d, s0 :: s1 :: s2 :: s3 :: s4 :: s5 :: s6 :: s7 :: s8 :: s9 :: s10 :: .val d :: ρ, k) := nrfl rfl
theorem ix_11 {s : Sl} {s0 s1 s2 s3 s4 s5 s6 s7 s8 s9 s10 : Sl} : (s0 :: s1 :: s2 :: s3 :: s4 :: s5 :: s6 :: s7 :: s8 :: s9 :: s10 :: s :: ρ)[11]? = some s := nrfl rfl
theorem sx_11 {s v : Sl} {s0 s1 s2 s3 s4 s5 s6 s7 s8 s9 s10 : Sl} : (s0 :: s1 :: s2 :: s3 :: s4 :: s5 :: s6 :: s7 :: s8 :: s9 :: s10 :: s :: ρ).set 11 v = s0 :: s1 :: s2 :: s3 :: s4 :: s5 :: s6 :: s7 :: s8 :: s9 :: s10 :: v :: ρ := nrfl rfl
theorem vv_12 {s0 s1 s2 s3 s4 s5 s6 s7 s8 s9 s10 s11 : Sl} : eVar 12 (s0 :: s1 :: s2 :: s3 :: s4 :: s5 :: s6 :: s7 :: s8 :: s9 :: s10 :: s11 :: .val d :: ρ) k = some (d, s0 :: s1 :: s2 :: s3 :: s4 :: s5 :: s6 :: s7 :: s8 :: s9 :: s10 :: s11 :: .val d :: ρ, k) := nrfl rfl
theorem vo_12 {s0 s1 s2 s3 s4 s5 s6 s7 s8 s9 s10 s11 : Sl} : eVar 12 (s0 :: s1 :: s2 :: s3 :: s4 :: s5 :: s6 :: s7 :: s8 :: s9 :: s10 :: s11 :: .own d :: ρ) k = some (d, s0 :: s1 :: s2 :: s3 :: s4 :: s5 :: s6 :: s7 :: s8 :: s9 :: s10 :: s11 :: .val d :: ρ, k) := nrfl rfl
theorem ix_12 {s : Sl} {s0 s1 s2 s3 s4 s5 s6 s7 s8 s9 s10 s11 : Sl} : (s0 :: s1 :: s2 :: s3 :: s4 :: s5 :: s6 :: s7 :: s8 :: s9 :: s10 :: s11 :: s :: ρ)[12]? = some s := nrfl rfl
theorem sx_12 {s v : Sl} {s0 s1 s2 s3 s4 s5 s6 s7 s8 s9 s10 s11 : Sl} : (s0 :: s1 :: s2 :: s3 :: s4 :: s5 :: s6 :: s7 :: s8 :: s9 :: s10 :: s11 :: s :: ρ).set 12 v = s0 :: s1 :: s2 :: s3 :: s4 :: s5 :: s6 :: s7 :: s8 :: s9 :: s10 :: s11 :: v :: ρ := nrfl rfl
theorem vv_13 {s0 s1 s2 s3 s4 s5 s6 s7 s8 s9 s10 s11 s12 : Sl} : eVar 13 (s0 :: s1 :: s2 :: s3 :: s4 :: s5 :: s6 :: s7 :: s8 :: s9 :: s10 :: s11 :: s12 :: .val d :: ρ) k = some (d, s0 :: s1 :: s2 :: s3 :: s4 :: s5 :: s6 :: s7 :: s8 :: s9 :: s10 :: s11 :: s12 :: .val d :: ρ, k) := nrfl rfl
theorem vo_13 {s0 s1 s2 s3 s4 s5 s6 s7 s8 s9 s10 s11 s12 : Sl} : eVar 13 (s0 :: s1 :: s2 :: s3 :: s4 :: s5 :: s6 :: s7 :: s8 :: s9 :: s10 :: s11 :: s12 :: .own d :: ρ) k = some (d, s0 :: s1 :: s2 :: s3 :: s4 :: s5 :: s6 :: s7 :: s8 :: s9 :: s10 :: s11 :: s12 :: .val d :: ρ, k) := nrfl rfl
theorem ix_13 {s : Sl} {s0 s1 s2 s3 s4 s5 s6 s7 s8 s9 s10 s11 s12 : Sl} : (s0 :: s1 :: s2 :: s3 :: s4 :: s5 :: s6 :: s7 :: s8 :: s9 :: s10 :: s11 :: s12 :: s :: ρ)[13]? = some s := nrfl rfl
theorem sx_13 {s v : Sl} {s0 s1 s2 s3 s4 s5 s6 s7 s8 s9 s10 s11 s12 : Sl} : (s0 :: s1 :: s2 :: s3 :: s4 :: s5 :: s6 :: s7 :: s8 :: s9 :: s10 :: s11 :: s12 :: s :: ρ).set 13 v = s0 :: s1 :: s2 :: s3 :: s4 :: s5 :: s6 :: s7 :: s8 :: s9 :: s10 :: s11 :: s12 :: v :: ρ := nrfl rfl
theorem vv_14 {s0 s1 s2 s3 s4 s5 s6 s7 s8 s9 s10 s11 s12 s13 : Sl} : eVar 14 (s0 :: s1 :: s2 :: s3 :: s4 :: s5 :: s6 :: s7 :: s8 :: s9 :: s10 :: s11 :: s12 :: s13 :: .val d :: ρ) k = some (d, s0 :: s1 :: s2 :: s3 :: s4 :: s5 :: s6 :: s7 :: s8 :: s9 :: s10 :: s11 :: s12 :: s13 :: .val d :: ρ, k) := nrfl rfl
theorem vo_14 {s0 s1 s2 s3 s4 s5 s6 s7 s8 s9 s10 s11 s12 s13 : Sl} : eVar 14 (s0 :: s1 :: s2 :: s3 :: s4 :: s5 :: s6 :: s7 :: s8 :: s9 :: s10 :: s11 :: s12 :: s13 :: .own d :: ρ) k = some (d, s0 :: s1 :: s2 :: s3 :: s4 :: s5 :: s6 :: s7 :: s8 :: s9 :: s10 :: s11 :: s12 :: s13 :: .val d :: ρ, k) := nrfl rfl
theorem ix_14 {s : Sl} {s0 s1 s2 s3 s4 s5 s6 s7 s8 s9 s10 s11 s12 s13 : Sl} : (s0 :: s1 :: s2 :: s3 :: s4 :: s5 :: s6 :: s7 :: s8 :: s9 :: s10 :: s11 :: s12 :: s13 :: s :: ρ)[14]? = some s := nrfl rfl
theorem sx_14 {s v : Sl} {s0 s1 s2 s3 s4 s5 s6 s7 s8 s9 s10 s11 s12 s13 : Sl} : (s0 :: s1 :: s2 :: s3 :: s4 :: s5 :: s6 :: s7 :: s8 :: s9 :: s10 :: s11 :: s12 :: s13 :: s :: ρ).set 14 v = s0 :: s1 :: s2 :: s3 :: s4 :: s5 :: s6 :: s7 :: s8 :: s9 :: s10 :: s11 :: s12 :: s13 :: v :: ρ := nrfl rfl
theorem vv_15 {s0 s1 s2 s3 s4 s5 s6 s7 s8 s9 s10 s11 s12 s13 s14 : Sl} : eVar 15 (s0 :: s1 :: s2 :: s3 :: s4 :: s5 :: s6 :: s7 :: s8 :: s9 :: s10 :: s11 :: s12 :: s13 :: s14 :: .val d :: ρ) k = some (d, s0 :: s1 :: s2 :: s3 :: s4 :: s5 :: s6 :: s7 :: s8 :: s9 :: s10 :: s11 :: s12 :: s13 :: s14 :: .val d :: ρ, k) := nrfl rfl
theorem vo_15 {s0 s1 s2 s3 s4 s5 s6 s7 s8 s9 s10 s11 s12 s13 s14 : Sl} : eVar 15 (s0 :: s1 :: s2 :: s3 :: s4 :: s5 :: s6 :: s7 :: s8 :: s9 :: s10 :: s11 :: s12 :: s13 :: s14 :: .own d :: ρ) k = some (d, s0 :: s1 :: s2 :: s3 :: s4 :: s5 :: s6 :: s7 :: s8 :: s9 :: s10 :: s11 :: s12 :: s13 :: s14 :: .val d :: ρ, k) := nrfl rfl
theorem ix_15 {s : Sl} {s0 s1 s2 s3 s4 s5 s6 s7 s8 s9 s10 s11 s12 s13 s14 : Sl} : (s0 :: s1 :: s2 :: s3 :: s4 :: s5 :: s6 :: s7 :: s8 :: s9 :: s10 :: s11 :: s12 :: s13 :: s14 :: s :: ρ)[15]? = some s := nrfl rfl
theorem sx_15 {s v : Sl} {s0 s1 s2 s3 s4 s5 s6 s7 s8 s9 s10 s11 s12 s13 s14 : Sl} : (s0 :: s1 :: s2 :: s3 :: s4 :: s5 :: s6 :: s7 :: s8 :: s9 :: s10 :: s11 :: s12 :: s13 :: s14 :: s :: ρ).set 15 v = s0 :: s1 :: s2 :: s3 :: s4 :: s5 :: s6 :: s7 :: s8 :: s9 :: s10 :: s11 :: s12 :: s13 :: s14 :: v :: ρ := nrfl rfl
theorem vv_16 {s0 s1 s2 s3 s4 s5 s6 s7 s8 s9 s10 s11 s12 s13 s14 s15 : Sl} : eVar 16 (s0 :: s1 :: s2 :: s3 :: s4 :: s5 :: s6 :: s7 :: s8 :: s9 :: s10 :: s11 :: s12 :: s13 :: s14 :: s15 :: .val d :: ρ) k = some (d, s0 :: s1 :: s2 :: s3 :: s4 :: s5 :: s6 :: s7 :: s8 :: s9 :: s10 :: s11 :: s12 :: s13 :: s14 :: s15 :: .val d :: ρ, k) := nrfl rfl
theorem vo_16 {s0 s1 s2 s3 s4 s5 s6 s7 s8 s9 s10 s11 s12 s13 s14 s15 : Sl} : eVar 16 (s0 :: s1 :: s2 :: s3 :: s4 :: s5 :: s6 :: s7 :: s8 :: s9 :: s10 :: s11 :: s12 :: s13 :: s14 :: s15 :: .own d :: ρ) k = some (d, s0 :: s1 :: s2 :: s3 :: s4 :: s5 :: s6 :: s7 :: s8 :: s9 :: s10 :: s11 :: s12 :: s13 :: s14 :: s15 :: .val d :: ρ, k) := nrfl rfl
theorem ix_16 {s : Sl} {s0 s1 s2 s3 s4 s5 s6 s7 s8 s9 s10 s11 s12 s13 s14 s15 : Sl} : (s0 :: s1 :: s2 :: s3 :: s4 :: s5 :: s6 :: s7 :: s8 :: s9 :: s10 :: s11 :: s12 :: s13 :: s14 :: s15 :: s :: ρ)[16]? = some s := nrfl rfl
theorem sx_16 {s v : Sl} {s0 s1 s2 s3 s4 s5 s6 s7 s8 s9 s10 s11 s12 s13 s14 s15 : Sl} : (s0 :: s1 :: s2 :: s3 :: s4 :: s5 :: s6 :: s7 :: s8 :: s9 :: s10 :: s11 :: s12 :: s13 :: s14 :: s15 :: s :: ρ).set 16 v = s0 :: s1 :: s2 :: s3 :: s4 :: s5 :: s6 :: s7 :: s8 :: s9 :: s10 :: s11 :: s12 :: s13 :: s14 :: s15 :: v :: ρ := nrfl rfl
theorem vv_17 {s0 s1 s2 s3 s4 s5 s6 s7 s8 s9 s10 s11 s12 s13 s14 s15 s16 : Sl} : eVar 17 (s0 :: s1 :: s2 :: s3 :: s4 :: s5 :: s6 :: s7 :: s8 :: s9 :: s10 :: s11 :: s12 :: s13 :: s14 :: s15 :: s16 :: .val d :: ρ) k = some (d, s0 :: s1 :: s2 :: s3 :: s4 :: s5 :: s6 :: s7 :: s8 :: s9 :: s10 :: s11 :: s12 :: s13 :: s14 :: s15 :: s16 :: .val d :: ρ, k) := nrfl rfl
theorem vo_17 {s0 s1 s2 s3 s4 s5 s6 s7 s8 s9 s10 s11 s12 s13 s14 s15 s16 : Sl} : eVar 17 (s0 :: s1 :: s2 :: s3 :: s4 :: s5 :: s6 :: s7 :: s8 :: s9 :: s10 :: s11 :: s12 :: s13 :: s14 :: s15 :: s16 :: .own d :: ρ) k = some (d, s0 :: s1 :: s2 :: s3 :: s4 :: s5 :: s6 :: s7 :: s8 :: s9 :: s10 :: s11 :: s12 :: s13 :: s14 :: s15 :: s16 :: .val d :: ρ, k) := nrfl rfl
theorem ix_17 {s : Sl} {s0 s1 s2 s3 s4 s5 s6 s7 s8 s9 s10 s11 s12 s13 s14 s15 s16 : Sl} : (s0 :: s1 :: s2 :: s3 :: s4 :: s5 :: s6 :: s7 :: s8 :: s9 :: s10 :: s11 :: s12 :: s13 :: s14 :: s15 :: s16 :: s :: ρ)[17]? = some s := nrfl rfl
theorem sx_17 {s v : Sl} {s0 s1 s2 s3 s4 s5 s6 s7 s8 s9 s10 s11 s12 s13 s14 s15 s16 : Sl} : (s0 :: s1 :: s2 :: s3 :: s4 :: s5 :: s6 :: s7 :: s8 :: s9 :: s10 :: s11 :: s12 :: s13 :: s14 :: s15 :: s16 :: s :: ρ).set 17 v = s0 :: s1 :: s2 :: s3 :: s4 :: s5 :: s6 :: s7 :: s8 :: s9 :: s10 :: s11 :: s12 :: s13 :: s14 :: s15 :: s16 :: v :: ρ := nrfl rfl
theorem vv_18 {s0 s1 s2 s3 s4 s5 s6 s7 s8 s9 s10 s11 s12 s13 s14 s15 s16 s17 : Sl} : eVar 18 (s0 :: s1 :: s2 :: s3 :: s4 :: s5 :: s6 :: s7 :: s8 :: s9 :: s10 :: s11 :: s12 :: s13 :: s14 :: s15 :: s16 :: s17 :: .val d :: ρ) k = some (d, s0 :: s1 :: s2 :: s3 :: s4 :: s5 :: s6 :: s7 :: s8 :: s9 :: s10 :: s11 :: s12 :: s13 :: s14 :: s15 :: s16 :: s17 :: .val d :: ρ, k) := nrfl rfl
theorem vo_18 {s0 s1 s2 s3 s4 s5 s6 s7 s8 s9 s10 s11 s12 s13 s14 s15 s16 s17 : Sl} : eVar 18 (s0 :: s1 :: s2 :: s3 :: s4 :: s5 :: s6 :: s7 :: s8 :: s9 :: s10 :: s11 :: s12 :: s13 :: s14 :: s15 :: s16 :: s17 :: .own d :: ρ) k = some (d, s0 :: s1 :: s2 :: s3 :: s4 :: s5 :: s6 :: s7 :: s8 :: s9 :: s10 :: s11 :: s12 :: s13 :: s14 :: s15 :: s16 :: s17 :: .val d :: ρ, k) := nrfl rfl
theorem ix_18 {s : Sl} {s0 s1 s2 s3 s4 s5 s6 s7 s8 s9 s10 s11 s12 s13 s14 s15 s16 s17 : Sl} : (s0 :: s1 :: s2 :: s3 :: s4 :: s5 :: s6 :: s7 :: s8 :: s9 :: s10 :: s11 :: s12 :: s13 :: s14 :: s15 :: s16 :: s17 :: s :: ρ)[18]? = some s := nrfl rfl
theorem sx_18 {s v : Sl} {s0 s1 s2 s3 s4 s5 s6 s7 s8 s9 s10 s11 s12 s13 s14 s15 s16 s17 : Sl} : (s0 :: s1 :: s2 :: s3 :: s4 :: s5 :: s6 :: s7 :: s8 :: s9 :: s10 :: s11 :: s12 :: s13 :: s14 :: s15 :: s16 :: s17 :: s :: ρ).set 18 v = s0 :: s1 :: s2 :: s3 :: s4 :: s5 :: s6 :: s7 :: s8 :: s9 :: s10 :: s11 :: s12 :: s13 :: s14 :: s15 :: s16 :: s17 :: v :: ρ := nrfl rfl
theorem vv_19 {s0 s1 s2 s3 s4 s5 s6 s7 s8 s9 s10 s11 s12 s13 s14 s15 s16 s17 s18 : Sl} : eVar 19 (s0 :: s1 :: s2 :: s3 :: s4 :: s5 :: s6 :: s7 :: s8 :: s9 :: s10 :: s11 :: s12 :: s13 :: s14 :: s15 :: s16 :: s17 :: s18 :: .val d :: ρ) k = some (d, s0 :: s1 :: s2 :: s3 :: s4 :: s5 :: s6 :: s7 :: s8 :: s9 :: s10 :: s11 :: s12 :: s13 :: s14 :: s15 :: s16 :: s17 :: s18 :: .val d :: ρ, k) := nrfl rfl
theorem vo_19 {s0 s1 s2 s3 s4 s5 s6 s7 s8 s9 s10 s11 s12 s13 s14 s15 s16 s17 s18 : Sl} : eVar 19 (s0 :: s1 :: s2 :: s3 :: s4 :: s5 :: s6 :: s7 :: s8 :: s9 :: s10 :: s11 :: s12 :: s13 :: s14 :: s15 :: s16 :: s17 :: s18 :: .own d :: ρ) k = some (d, s0 :: s1 :: s2 :: s3 :: s4 :: s5 :: s6 :: s7 :: s8 :: s9 :: s10 :: s11 :: s12 :: s13 :: s14 :: s15 :: s16 :: s17 :: s18 :: .val d :: ρ, k) := nrfl rfl
theorem ix_19 {s : Sl} {s0 s1 s2 s3 s4 s5 s6 s7 s8 s9 s10 s11 s12 s13 s14 s15 s16 s17 s18 : Sl} : (s0 :: s1 :: s2 :: s3 :: s4 :: s5 :: s6 :: s7 :: s8 :: s9 :: s10 :: s11 :: s12 :: s13 :: s14 :: s15 :: s16 :: s17 :: s18 :: s :: ρ)[19]? = some s := nrfl rfl
theorem sx_19 {s v : Sl} {s0 s1 s2 s3 s4 s5 s6 s7 s8 s9 s10 s11 s12 s13 s14 s15 s16 s17 s18 : Sl} : (s0 :: s1 :: s2 :: s3 :: s4 :: s5 :: s6 :: s7 :: s8 :: s9 :: s10 :: s11 :: s12 :: s13 :: s14 :: s15 :: s16 :: s17 :: s18 :: s :: ρ).set 19 v = s0 :: s1 :: s2 :: s3 :: s4 :: s5 :: s6 :: s7 :: s8 :: s9 :: s10 :: s11 :: s12 :: s13 :: s14 :: s15 :: s16 :: s17 :: s18 :: v :: ρ := nrfl rfl
theorem vv_20 {s0 s1 s2 s3 s4 s5 s6 s7 s8 s9 s10 s11 s12 s13 s14 s15 s16 s17 s18 s19 : Sl} : eVar 20 (s0 :: s1 :: s2 :: s3 :: s4 :: s5 :: s6 :: s7 :: s8 :: s9 :: s10 :: s11 :: s12 :: s13 :: s14 :: s15 :: s16 :: s17 :: s18 :: s19 :: .val d :: ρ) k = some (d, s0 :: s1 :: s2 :: s3 :: s4 :: s5 :: s6 :: s7 :: s8 :: s9 :: s10 :: s11 :: s12 :: s13 :: s14 :: s15 :: s16 :: s17 :: s18 :: s19 :: .val d :: ρ, k) := nrfl rfl
theorem vo_20 {s0 s1 s2 s3 s4 s5 s6 s7 s8 s9 s10 s11 s12 s13 s14 s15 s16 s17 s18 s19 : Sl} : eVar 20 (s0 :: s1 :: s2 :: s3 :: s4 :: s5 :: s6 :: s7 :: s8 :: s9 :: s10 :: s11 :: s12 :: s13 :: s14 :: s15 :: s16 :: s17 :: s18 :: s19 :: .own d :: ρ) k = some (d, s0 :: s1 :: s2 :: s3 :: s4 :: s5 :: s6 :: s7 :: s8 :: s9 :: s10 :: s11 :: s12 :: s13 :: s14 :: s15 :: s16 :: s17 :: s18 :: s19 :: .val d :: ρ, k) := nrfl rfl
theorem ix_20 {s : Sl} {s0 s1 s2 s3 s4 s5 s6 s7 s8 s9 s10 s11 s12 s13 s14 s15 s16 s17 s18 s19 : Sl} : (s0 :: s1 :: s2 :: s3 :: s4 :: s5 :: s6 :: s7 :: s8 :: s9 :: s10 :: s11 :: s12 :: s13 :: s14 :: s15 :: s16 :: s17 :: s18 :: s19 :: s :: ρ)[20]? = some s := nrfl rfl
theorem sx_20 {s v : Sl} {s0 s1 s2 s3 s4 s5 s6 s7 s8 s9 s10 s11 s12 s13 s14 s15 s16 s17 s18 s19 : Sl} : (s0 :: s1 :: s2 :: s3 :: s4 :: s5 :: s6 :: s7 :: s8 :: s9 :: s10 :: s11 :: s12 :: s13 :: s14 :: s15 :: s16 :: s17 :: s18 :: s19 :: s :: ρ).set 20 v = s0 :: s1 :: s2 :: s3 :: s4 :: s5 :: s6 :: s7 :: s8 :: s9 :: s10 :: s11 :: s12 :: s13 :: s14 :: s15 :: s16 :: s17 :: s18 :: s19 :: v :: ρ := nrfl rfl
theorem vv_21 {s0 s1 s2 s3 s4 s5 s6 s7 s8 s9 s10 s11 s12 s13 s14 s15 s16 s17 s18 s19 s20 : Sl} : eVar 21 (s0 :: s1 :: s2 :: s3 :: s4 :: s5 :: s6 :: s7 :: s8 :: s9 :: s10 :: s11 :: s12 :: s13 :: s14 :: s15 :: s16 :: s17 :: s18 :: s19 :: s20 :: .val d :: ρ) k = some (d, s0 :: s1 :: s2 :: s3 :: s4 :: s5 :: s6 :: s7 :: s8 :: s9 :: s10 :: s11 :: s12 :: s13 :: s14 :: s15 :: s16 :: s17 :: s18 :: s19 :: s20 :: .val d :: ρ, k) := nrfl rfl
theorem vo_21 {s0 s1 s2 s3 s4 s5 s6 s7 s8 s9 s10 s11 s12 s13 s14 s15 s16 s17 s18 s19 s20 : Sl} : eVar 21 (s0 :: s1 :: s2 :: s3 :: s4 :: s5 :: s6 :: s7 :: s8 :: s9 :: s10 :: s11 :: s12 :: s13 :: s14 :: s15 :: s16 :: s17 :: s18 :: s19 :: s20 :: .own d :: ρ) k = some (d, s0 :: s1 :: s2 :: s3 :: s4 :: s5 :: s6 :: s7 :: s8 :: s9 :: s10 :: s11 :: s12 :: s13 :: s14 :: s15 :: s16 :: s17 :: s18 :: s19 :: s20 :: .val d :: ρ, k) := nrfl rfl
theorem ix_21 {s : Sl} {s0 s1 s2 s3 s4 s5 s6 s7 s8 s9 s10 s11 s12 s13 s14 s15 s16 s17 s18 s19 s20 : Sl} : (s0 :: s1 :: s2 :: s3 :: s4 :: s5 :: s6 :: s7 :: s8 :: s9 :: s10 :: s11 :: s12 :: s13 :: s14 :: s15 :: s16 :: s17 :: s18 :: s19 :: s20 :: s :: ρ)[21]? = some s := nrfl rfl
theorem sx_21 {s v : Sl} {s0 s1 s2 s3 s4 s5 s6 s7 s8 s9 s10 s11 s12 s13 s14 s15 s16 s17 s18 s19 s20 : Sl} : (s0 :: s1 :: s2 :: s3 :: s4 :: s5 :: s6 :: s7 :: s8 :: s9 :: s10 :: s11 :: s12 :: s13 :: s14 :: s15 :: s16 :: s17 :: s18 :: s19 :: s20 :: s :: ρ).set 21 v = s0 :: s1 :: s2 :: s3 :: s4 :: s5 :: s6 :: s7 :: s8 :: s9 :: s10 :: s11 :: s12 :: s13 :: s14 :: s15 :: s16 :: s17 :: s18 :: s19 :: s20 :: v :: ρ := nrfl rfl
theorem vv_22 {s0 s1 s2 s3 s4 s5 s6 s7 s8 s9 s10 s11 s12 s13 s14 s15 s16 s17 s18 s19 s20 s21 : Sl} : eVar 22 (s0 :: s1 :: s2 :: s3 :: s4 :: s5 :: s6 :: s7 :: s8 :: s9 :: s10 :: s11 :: s12 :: s13 :: s14 :: s15 :: s16 :: s17 :: s18 :: s19 :: s20 :: s21 :: .val d :: ρ) k = some (d, s0 :: s1 :: s2 :: s3 :: s4 :: s5 :: s6 :: s7 :: s8 :: s9 :: s10 :: s11 :: s12 :: s13 :: s14 :: s15 :: s16 :: s17 :: s18 :: s19 :: s20 :: s21 :: .val d :: ρ, k) := nrfl rfl
theorem vo_22 {s0 s1 s2 s3 s4 s5 s6 s7 s8 s9 s10 s11 s12 s13 s14 s15 s16 s17 s18 s19 s20 s21 : Sl} : eVar 22 (s0 :: s1 :: s2 :: s3 :: s4 :: s5 :: s6 :: s7 :: s8 :: s9 :: s10 :: s11 :: s12 :: s13 :: s14 :: s15 :: s16 :: s17 :: s18 :: s19 :: s20 :: s21 :: .own d :: ρ) k = some (d, s0 :: s1 :: s2 :: s3 :: s4 :: s5 :: s6 :: s7 :: s8 :: s9 :: s10 :: s11 :: s12 :: s13 :: s14 :: s15 :: s16 :: s17 :: s18 :: s19 :: s20 :: s21 :: .val d :: ρ, k) := nrfl rfl
theorem ix_22 {s : Sl} {s0 s1 s2 s3 s4 s5 s6 s7 s8 s9 s10 s11 s12 s13 s14 s15 s16 s17 s18 s19 s20 s21 : Sl} : (s0 :: s1 :: s2 :: s3 :: s4 :: s5 :: s6 :: s7 :: s8 :: s9 :: s10 :: s11 :: s12 :: s13 :: s14 :: s15 :: s16 :: s17 :: s18 :: s19 :: s20 :: s21 :: s :: ρ)[22]? = some s := nrfl rfl
theorem sx_22 {s v : Sl} {s0 s1 s2 s3 s4 s5 s6 s7 s8 s9 s10 s11 s12 s13 s14 s15 s16 s17 s18 s19 s20 s21 : Sl} : (s0 :: s1 :: s2 :: s3 :: s4 :: s5 :: s6 :: s7 :: s8 :: s9 :: s10 :: s11 :: s12 :: s13 :: s14 :: s15 :: s16 :: s17 :: s18 :: s19 :: s20 :: s21 :: s :: ρ).set 22 v = s0 :: s1 :: s2 :: s3 :: s4 :: s5 :: s6 :: s7 :: s8 :: s9 :: s10 :: s11 :: s12 :: s13 :: s14 :: s15 :: s16 :: s17 :: s18 :: s19 :: s20 :: s21 :: v :: ρ := nrfl rfl
theorem vv_23 {s0 s1 s2 s3 s4 s5 s6 s7 s8 s9 s10 s11 s12 s13 s14 s15 s16 s17 s18 s19 s20 s21 s22 : Sl} : eVar 23 (s0 :: s1 :: s2 :: s3 :: s4 :: s5 :: s6 :: s7 :: s8 :: s9 :: s10 :: s11 :: s12 :: s13 :: s14 :: s15 :: s16 :: s17 :: s18 :: s19 :: s20 :: s21 :: s22 :: .val d :: ρ) k = some (d, s0 :: s1 :: s2 :: s3 :: s4 :: s5 :: s6 :: s7 :: s8 :: s9 :: s10 :: s11 :: s12 :: s13 :: s14 :: s15 :: s16 :: s17 :: s18 :: s19 :: s20 :: s21 :: s22 :: .val d :: ρ, k) := nrfl rfl
theorem vo_23 {s0 s1 s2 s3 s4 s5 s6 s7 s8 s9 s10 s11 s12 s13 s14 s15 s16 s17 s18 s19 s20 s21 s22 : Sl} : eVar 23 (s0 :: s1 :: s2 :: s3 :: s4 :: s5 :: s6 :: s7 :: s8 :: s9 :: s10 :: s11 :: s12 :: s13 :: s14 :: s15 :: s16 :: s17 :: s18 :: s19 :: s20 :: s21 :: s22 :: .own d :: ρ) k = some (d, s0 :: s1 :: s2 :: s3 :: s4 :: s5 :: s6 :: s7 :: s8 :: s9 :: s10 :: s11 :: s12 :: s13 :: s14 :: s15 :: s16 :: s17 :: s18 :: s19 :: s20 :: s21 :: s22 :: .val d :: ρ, k) := nrfl rfl
theorem ix_23 {s : Sl} {s0 s1 s2 s3 s4 s5 s6 s7 s8 s9 s10 s11 s12 s13 s14 s15 s16 s17 s18 s19 s20 s21 s22 : Sl} : (s0 :: s1 :: s2 :: s3 :: s4 :: s5 :: s6 :: s7 :: s8 :: s9 :: s10 :: s11 :: s12 :: s13 :: s14 :: s15 :: s16 :: s17 :: s18 :: s19 :: s20 :: s21 :: s22 :: s :: ρ)[23]? = some s := nrfl rfl
theorem sx_23 {s v : Sl} {s0 s1 s2 s3 s4 s5 s6 s7 s8 s9 s10 s11 s12 s13 s14 s15 s16 s17 s18 s19 s20 s21 s22 : Sl} : (s0 :: s1 :: s2 :: s3 :: s4 :: s5 :: s6 :: s7 :: s8 :: s9 :: s10 :: s11 :: s12 :: s13 :: s14 :: s15 :: s16 :: s17 :: s18 :: s19 :: s20 :: s21 :: s22 :: s :: ρ).set 23 v = s0 :: s1 :: s2 :: s3 :: s4 :: s5 :: s6 :: s7 :: s8 :: s9 :: s10 :: s11 :: s12 :: s13 :: s14 :: s15 :: s16 :: s17 :: s18 :: s19 :: s20 :: s21 :: s22 :: v :: ρ := nrfl rfl
theorem vv_24 {s0 s1 s2 s3 s4 s5 s6 s7 s8 s9 s10 s11 s12 s13 s14 s15 s16 s17 s18 s19 s20 s21 s22 s23 : Sl} : eVar 24 (s0 :: s1 :: s2 :: s3 :: s4 :: s5 :: s6 :: s7 :: s8 :: s9 :: s10 :: s11 :: s12 :: s13 :: s14 :: s15 :: s16 :: s17 :: s18 :: s19 :: s20 :: s21 :: s22 :: s23 :: .val d :: ρ) k = some (d, s0 :: s1 :: s2 :: s3 :: s4 :: s5 :: s6 :: s7 :: s8 :: s9 :: s10 :: s11 :: s12 :: s13 :: s14 :: s15 :: s16 :: s17 :: s18 :: s19 :: s20 :: s21 :: s22 :: s23 :: .val d :: ρ, k) := nrfl rfl
theorem vo_24 {s0 s1 s2 s3 s4 s5 s6 s7 s8 s9 s10 s11 s12 s13 s14 s15 s16 s17 s18 s19 s20 s21 s22 s23 : Sl} : eVar 24 (s0 :: s1 :: s2 :: s3 :: s4 :: s5 :: s6 :: s7 :: s8 :: s9 :: s10 :: s11 :: s12 :: s13 :: s14 :: s15 :: s16 :: s17 :: s18 :: s19 :: s20 :: s21 :: s22 :: s23 :: .own d :: ρ) k = some (d, s0 :: s1 :: s2 :: s3 :: s4 :: s5 :: s6 :: s7 :: s8 :: s9 :: s10 :: s11 :: s12 :: s13 :: s14 :: s15 :: s16 :: s17 :: s18 :: s19 :: s20 :: s21 :: s22 :: s23 :: .val d :: ρ, k) := nrfl rfl
theorem ix_24 {s : Sl} {s0 s1 s2 s3 s4 s5 s6 s7 s8 s9 s10 s11 s12 s13 s14 s15 s16 s17 s18 s19 s20 s21 s22 s23 : Sl} : (s0 :: s1 :: s2 :: s3 :: s4 :: s5 :: s6 :: s7 :: s8 :: s9 :: s10 :: s11 :: s12 :: s13 :: s14 :: s15 :: s16 :: s17 :: s18 :: s19 :: s20 :: s21 :: s22 :: s23 :: s :: ρ)[24]? = some s := nrfl rfl
theorem sx_24 {s v : Sl} {s0 s1 s2 s3 s4 s5 s6 s7 s8 s9 s10 s11 s12 s13 s14 s15 s16 s17 s18 s19 s20 s21 s22 s23 : Sl} : (s0 :: s1 :: s2 :: s3 :: s4 :: s5 :: s6 :: s7 :: s8 :: s9 :: s10 :: s11 :: s12 :: s13 :: s14 :: s15 :: s16 :: s17 :: s18 :: s19 :: s20 :: s21 :: s22 :: s23 :: s :: ρ).set 24 v = s0 :: s1 :: s2 :: s3 :: s4 :: s5 :: s6 :: s7 :: s8 :: s9 :: s10 :: s11 :: s12 :: s13 :: s14 :: s15 :: s16 :: s17 :: s18 :: s19 :: s20 :: s21 :: s22 :: s23 :: v :: ρ := nrfl rfl
end
theorem isi_non_int  : gIsI [.non, .ty "int"] = some (.bl false) := nrfl rfl
theorem isi_non_bool  : gIsI [.non, .ty "bool"] = some (.bl false) := nrfl rfl
theorem isi_non_str  : gIsI [.non, .ty "str"] = some (.bl false) := nrfl rfl
theorem isi_non_tuple  : gIsI [.non, .ty "tuple"] = some (.bl false) := nrfl rfl
theorem isi_non_list  : gIsI [.non, .ty "list"] = some (.bl false) := nrfl rfl
theorem isi_non_dict  : gIsI [.non, .ty "dict"] = some (.bl false) := nrfl rfl
theorem isi_bl_int {b : Bool} : gIsI [(.bl b), .ty "int"] = some (.bl true) := nrfl rfl
theorem isi_bl_bool {b : Bool} : gIsI [(.bl b), .ty "bool"] = some (.bl true) := nrfl rfl
theorem isi_bl_str {b : Bool} : gIsI [(.bl b), .ty "str"] = some (.bl false) := nrfl rfl
theorem isi_bl_tuple {b : Bool} : gIsI [(.bl b), .ty "tuple"] = some (.bl false) := nrfl rfl
theorem isi_bl_list {b : Bool} : gIsI [(.bl b), .ty "list"] = some (.bl false) := nrfl rfl
theorem isi_bl_dict {b : Bool} : gIsI [(.bl b), .ty "dict"] = some (.bl false) := nrfl rfl
theorem isi_int_int {i : Int} : gIsI [(.int i), .ty "int"] = some (.bl true) := nrfl rfl
theorem isi_int_bool {i : Int} : gIsI [(.int i), .ty "bool"] = some (.bl false) := nrfl rfl
theorem isi_int_str {i : Int} : gIsI [(.int i), .ty "str"] = some (.bl false) := nrfl rfl
theorem isi_int_tuple {i : Int} : gIsI [(.int i), .ty "tuple"] = some (.bl false) := nrfl rfl
theorem isi_int_list {i : Int} : gIsI [(.int i), .ty "list"] = some (.bl false) := nrfl rfl
theorem isi_int_dict {i : Int} : gIsI [(.int i), .ty "dict"] = some (.bl false) := nrfl rfl
theorem isi_str_int {x : Str} : gIsI [(.str x), .ty "int"] = some (.bl false) := nrfl rfl
theorem isi_str_bool {x : Str} : gIsI [(.str x), .ty "bool"] = some (.bl false) := nrfl rfl
theorem isi_str_str {x : Str} : gIsI [(.str x), .ty "str"] = some (.bl true) := nrfl rfl
theorem isi_str_tuple {x : Str} : gIsI [(.str x), .ty "tuple"] = some (.bl false) := nrfl rfl
theorem isi_str_list {x : Str} : gIsI [(.str x), .ty "list"] = some (.bl false) := nrfl rfl
theorem isi_str_dict {x : Str} : gIsI [(.str x), .ty "dict"] = some (.bl false) := nrfl rfl
theorem isi_tup_int {xs : List D} : gIsI [(.tup xs), .ty "int"] = some (.bl false) := nrfl rfl
theorem isi_tup_bool {xs : List D} : gIsI [(.tup xs), .ty "bool"] = some (.bl false) := nrfl rfl
theorem isi_tup_str {xs : List D} : gIsI [(.tup xs), .ty "str"] = some (.bl false) := nrfl rfl
theorem isi_tup_tuple {xs : List D} : gIsI [(.tup xs), .ty "tuple"] = some (.bl true) := nrfl rfl
theorem isi_tup_list {xs : List D} : gIsI [(.tup xs), .ty "list"] = some (.bl false) := nrfl rfl
theorem isi_tup_dict {xs : List D} : gIsI [(.tup xs), .ty "dict"] = some (.bl false) := nrfl rfl
theorem isi_lst_int {xs : List D} : gIsI [(.lst xs), .ty "int"] = some (.bl false) := nrfl rfl
theorem isi_lst_bool {xs : List D} : gIsI [(.lst xs), .ty "bool"] = some (.bl false) := nrfl rfl
theorem isi_lst_str {xs : List D} : gIsI [(.lst xs), .ty "str"] = some (.bl false) := nrfl rfl
theorem isi_lst_tuple {xs : List D} : gIsI [(.lst xs), .ty "tuple"] = some (.bl false) := nrfl rfl
theorem isi_lst_list {xs : List D} : gIsI [(.lst xs), .ty "list"] = some (.bl true) := nrfl rfl
theorem isi_lst_dict {xs : List D} : gIsI [(.lst xs), .ty "dict"] = some (.bl false) := nrfl rfl
theorem isi_dct_int {ks : List Key} {vs : List D} : gIsI [(.dct ks vs), .ty "int"] = some (.bl false) := nrfl rfl
theorem isi_dct_bool {ks : List Key} {vs : List D} : gIsI [(.dct ks vs), .ty "bool"] = some (.bl false) := nrfl rfl
theorem isi_dct_str {ks : List Key} {vs : List D} : gIsI [(.dct ks vs), .ty "str"] = some (.bl false) := nrfl rfl
theorem isi_dct_tuple {ks : List Key} {vs : List D} : gIsI [(.dct ks vs), .ty "tuple"] = some (.bl false) := nrfl rfl
theorem isi_dct_list {ks : List Key} {vs : List D} : gIsI [(.dct ks vs), .ty "list"] = some (.bl false) := nrfl rfl
theorem isi_dct_dict {ks : List Key} {vs : List D} : gIsI [(.dct ks vs), .ty "dict"] = some (.bl true) := nrfl rfl
section
variable {i j : Int} {a b : Str} {c : Bool} {xs ys : List D} {d e : D}
theorem r_lt : gLt (.int i) (.int j) = some (.bl (decide (i < j))) := nrfl rfl
theorem r_le : gLe (.int i) (.int j) = some (.bl (decide (i ≤ j))) := nrfl rfl
theorem r_gt : gGt (.int i) (.int j) = some (.bl (decide (j < i))) := nrfl rfl
theorem r_ge : gGe (.int i) (.int j) = some (.bl (decide (j ≤ i))) := nrfl rfl
theorem r_add : gAddB (.int i) (.int j) = some (.int (i + j)) := nrfl rfl
theorem r_addIB : gAddB (.int i) (.bl c) = some (.int (i + b2i c)) := nrfl rfl
theorem r_addBI : gAddB (.bl c) (.int i) = some (.int (b2i c + i)) := nrfl rfl
theorem r_sub : gSubB (.int i) (.int j) = some (.int (i - j)) := nrfl rfl
theorem r_subIB : gSubB (.int i) (.bl c) = some (.int (i - b2i c)) := nrfl rfl
theorem r_subBI : gSubB (.bl c) (.int i) = some (.int (b2i c - i)) := nrfl rfl
theorem r_neg : gNeg (.int i) = some (.int (-i)) := nrfl rfl
theorem r_eqI : gEqE (.int i) (.int j) = some (.bl (decide (i = j))) := by
  show gEq (.int i) (.int j) = _
  unfold gEq eqD toP
  have h1 : ∀ n : Int, SeqAt.shaped (.int n) = true := fun n => rfl
  simp only [Option.bind_some, h1, and_self, if_true, Option.map_some]
  show some (D.bl (i == j)) = _
  congr
theorem r_neI : gNeE (.int i) (.int j) = some (.bl (!decide (i = j))) := by
  show gNe (.int i) (.int j) = _
  unfold gNe eqD toP
  have h1 : ∀ n : Int, SeqAt.shaped (.int n) = true := fun n => rfl
  simp only [Option.bind_some, h1, and_self, if_true, Option.map_some]
  show some (D.bl (!(i == j))) = _
  congr
theorem r_eqB {c' : Bool} : gEqE (.bl c) (.bl c') = some (.bl (decide (c = c'))) := by cases c <;> cases c' <;> rfl
theorem r_neB {c' : Bool} : gNeE (.bl c) (.bl c') = some (.bl (!decide (c = c'))) := by cases c <;> cases c' <;> rfl
theorem r_eqBI : gEqE (.bl c) (.int j) = some (.bl (decide (b2i c = j))) := by
  show gEq (.bl c) (.int j) = _
  unfold gEq eqD toP
  have h1 : ∀ n : Int, SeqAt.shaped (.int n) = true := fun n => rfl
  have h2 : ∀ n : Bool, SeqAt.shaped (.bool n) = true := fun n => rfl
  simp only [Option.bind_some, h1, h2, and_self, if_true, Option.map_some]
  show some (D.bl ((if c then 1 else 0) == j)) = _
  congr
theorem r_eqS : gEqE (.str a) (.str b) = some (.bl (decide (a = b))) := nrfl rfl
theorem r_neS : gNeE (.str a) (.str b) = some (.bl (!decide (a = b))) := nrfl rfl
theorem r_eqT0 : gEqE (.tup xs) (.tup []) = some (.bl xs.isEmpty) := by
  show (if xs = [] ∨ ([] : List D) = [] then _ else _) = _
  rw [if_pos (.inr rfl)]
  simp
theorem r_neT0 : gNeE (.tup xs) (.tup []) = some (.bl (!xs.isEmpty)) := by
  show (if xs = [] ∨ ([] : List D) = [] then _ else _) = _
  rw [if_pos (.inr rfl)]
  simp
theorem r_eqL0 : gEqE (.lst xs) (.lst []) = some (.bl xs.isEmpty) := by
  show (if xs = [] ∨ ([] : List D) = [] then _ else _) = _
  rw [if_pos (.inr rfl)]
  simp
theorem r_neL0 : gNeE (.lst xs) (.lst []) = some (.bl (!xs.isEmpty)) := by
  show (if xs = [] ∨ ([] : List D) = [] then _ else _) = _
  rw [if_pos (.inr rfl)]
  simp
theorem r_isB {c' : Bool} : gIs (.bl c) (.bl c') = some (.bl (decide (c = c'))) := nrfl rfl
theorem r_isnB {c' : Bool} : gIsNot (.bl c) (.bl c') = some (.bl (!decide (c = c'))) := nrfl rfl
theorem r_isN : gIs d .non = some (.bl (isNonD d)) := by cases d <;> rfl
theorem r_isnN : gIsNot d .non = some (.bl (!isNonD d)) := by cases d <;> rfl
theorem r_lenT : gLen [.tup xs] = some (.int xs.length) := nrfl rfl
theorem r_lenL : gLen [.lst xs] = some (.int xs.length) := nrfl rfl
theorem r_lenS (h : a.length ≤ sizeLine) : gLen [.str a] = some (.int a.length) := if_pos h
theorem r_tupD (h : xs.length ≤ sizeLine) : gTupD xs = some (.tup xs) := if_pos h
theorem r_lstD (h : xs.length ≤ sizeLine) : gLstD xs = some (.lst xs) := if_pos h
theorem r_min : gMin2 [.int i, .int j] = some (.int (if j < i then j else i)) := nrfl rfl
theorem r_intI : gInt [.int i] = some (.int i) := nrfl rfl
theorem r_intB : gInt [.bl c] = some (.int (if c then 1 else 0)) := nrfl rfl
theorem r_tupL : gTuple [.lst xs] = some (.tup xs) := nrfl rfl
theorem r_lstT : gList [.tup xs] = some (.lst xs) := nrfl rfl
theorem r_lstL : gList [.lst xs] = some (.lst xs) := nrfl rfl
theorem r_mod (h : 0 < j) : gMod (.int i) (.int j) = some (.int (i % j)) := if_pos h
/-- an item -/
theorem atI_nat {α : Type} {l : List α} {n : Nat} : L2.atI l (n : Int) = l[n]? := by
  unfold L2.atI ixN
  rw [if_pos (Int.natCast_nonneg n)]
  by_cases h : n < l.length
  · rw [if_pos (by omega)]
    simp
  · rw [if_neg (by omega)]
    simp
    omega
theorem ix_tup {n : Nat} : gIx (.tup xs) (.int (n : Int)) = xs[n]? := atI_nat
theorem ix_lst {n : Nat} : gIx (.lst xs) (.int (n : Int)) = xs[n]? := atI_nat
end
section
variable {vs : List Nat} {g : Tg} {tt elt : E} {src : EL} {body : SS} {ρ : List Sl} {k : Dk}
theorem wp_nil : wipeS ρ [] = ρ := nrfl rfl
theorem wp_cons {v : Nat} {r : List Nat} : wipeS ρ (v :: r) = (wipeS ρ r).set v .no := nrfl rfl
theorem ap_comp : eComp src vs g tt elt ρ k = (src ρ k).bnd fun x => if x.1.length < sizeLine then (eCompGo vs g tt elt x.1 (wipeS x.2.1 vs) x.2.2).mpd fun y => (.lst y.1, y.2) else none := nrfl rfl
theorem ap_for : sFor src g body ρ k = (src ρ k).bnd fun x => sForGo g body x.1 x.2.1 x.2.2 := nrfl rfl
theorem ap_iApp {gg : List D → Option (List D)} {fs : EL} : iApp gg fs ρ k = (fs ρ k).bnd fun x => (gg x.1).mpd fun z => (z, x.2.1, x.2.2) := nrfl rfl
/-- what is walked -/
def seqD : D → Option (List D)
  | .lst ds => some ds
  | .rdl ds => some ds
  | .tup ds => some ds
  | _ => none
theorem ap_iSeq {e : E} : iSeq e ρ k = (e ρ k).bnd fun x => (seqD x.1).mpd fun z => (z, x.2.1, x.2.2) := by
  unfold iSeq seqD
  congr
  funext x
  obtain ⟨d, r⟩ := x
  cases d <;> rfl
theorem sq_lst {ds : List D} : seqD (.lst ds) = some ds := nrfl rfl
theorem sq_tup {ds : List D} : seqD (.tup ds) = some ds := nrfl rfl
/-- a comprehension without draws -/
theorem comp_pure (p : D → Bool) (h : D → D) : ∀ (ds : List D), (∀ d ∈ ds, ∃ ρ1 ρ2, g d ρ = some ρ1 ∧ tt ρ1 k = some (.bl (p d), ρ2, k) ∧ (p d = true → ∃ ρ3, elt ρ2 k = some (h d, ρ3, k) ∧ wipeS ρ3 vs = ρ) ∧ (p d = false → wipeS ρ2 vs = ρ)) →
    eCompGo vs g tt elt ds ρ k = some ((ds.filter p).map h, ρ, k)
  | [], _ => rfl
  | d :: ds, H => by
    obtain ⟨ρ1, ρ2, h1, h2, h3, h4⟩ := H d (by simp)
    have ih := comp_pure p h ds fun d' hd => H d' (by simp [hd])
    unfold eCompGo
    rw [h1, Option.bind_some, h2, Option.bind_some]
    cases e : p d with
    | true =>
      obtain ⟨ρ3, h5, h6⟩ := h3 e
      show ((elt ρ2 k).bind fun y => (eCompGo vs g tt elt ds (wipeS y.2.1 vs) y.2.2).map fun z => (y.1 :: z.1, z.2)) = _
      rw [h5, Option.bind_some]
      show (eCompGo vs g tt elt ds (wipeS ρ3 vs) k).map (fun z => (h d :: z.1, z.2)) = _
      rw [h6, ih, List.filter_cons_of_pos e]
      rfl
    | false =>
      show eCompGo vs g tt elt ds (wipeS ρ2 vs) k = _
      rw [h4 e, ih, List.filter_cons_of_neg (by rw [e]; exact Bool.false_ne_true)]
/-- .. without a test -/
theorem comp_map (h : D → D) (ds : List D) (H : ∀ d ∈ ds, ∃ ρ1 ρ2 ρ3, g d ρ = some ρ1 ∧ tt ρ1 k = some (.bl true, ρ2, k) ∧ elt ρ2 k = some (h d, ρ3, k) ∧ wipeS ρ3 vs = ρ) :
    eCompGo vs g tt elt ds ρ k = some (ds.map h, ρ, k) := by
  have := comp_pure (vs := vs) (g := g) (tt := tt) (elt := elt) (ρ := ρ) (k := k) (fun _ => true) h ds fun d hd => by
    obtain ⟨ρ1, ρ2, ρ3, h1, h2, h3, h4⟩ := H d hd
    exact ⟨ρ1, ρ2, h1, h2, fun _ => ⟨ρ3, h3, h4⟩, fun e => by cases e⟩
  rw [this, List.filter_eq_self.mpr (fun _ _ => rfl)]
/-- .. with draws -/
inductive All2 {α β : Type} (R : α → β → Prop) : List α → List β → Prop
  | nil : All2 R [] []
  | cons {a : α} {b : β} {as : List α} {bs : List β} : R a b → All2 R as bs → All2 R (a :: as) (b :: bs)
theorem All2.length {α β : Type} {R : α → β → Prop} {as : List α} {bs : List β} (h : All2 R as bs) : as.length = bs.length := by
  induction h with
  | nil => rfl
  | cons _ _ ih => simp [ih]
theorem All2.right {α β : Type} {R : α → β → Prop} {P : β → Prop} {as : List α} {bs : List β} (h : All2 R as bs) (i : ∀ a b, R a b → P b) : ∀ b ∈ bs, P b := by
  induction h with
  | nil => intro b hb; simp at hb
  | cons h _ ih =>
    intro b hb
    rcases List.mem_cons.mp hb with e | hb
    · subst e; exact i _ _ h
    · exact ih b hb
theorem comp_run (I : Nat → Dk → Prop) (R : D → D → Prop) : ∀ (ds : List D) (n : Nat) (k : Dk), I n k → (∀ d ∈ ds, ∀ n k, I n k → ∃ ρ1 ρ2 ρ3 e k', g d ρ = some ρ1 ∧ tt ρ1 k = some (.bl true, ρ2, k) ∧ elt ρ2 k = some (e, ρ3, k') ∧ wipeS ρ3 vs = ρ ∧ R d e ∧ I (n + 1) k') →
    ∃ es k', eCompGo vs g tt elt ds ρ k = some (es, ρ, k') ∧ All2 R ds es ∧ I (n + ds.length) k'
  | [], n, k, h, _ => ⟨[], k, rfl, .nil, h⟩
  | d :: ds, n, k, h, H => by
    obtain ⟨ρ1, ρ2, ρ3, e, k1, h1, h2, h3, h4, h5, h6⟩ := H d (by simp) n k h
    obtain ⟨es, k', q1, q2, q3⟩ := comp_run I R ds (n + 1) k1 h6 fun d' hd => H d' (by simp [hd])
    refine ⟨e :: es, k', ?_, .cons h5 q2, by rw [List.length_cons, show n + (ds.length + 1) = n + 1 + ds.length by omega]; exact q3⟩
    unfold eCompGo
    rw [h1, Option.bind_some, h2, Option.bind_some]
    show ((elt ρ2 k).bind fun y => (eCompGo vs g tt elt ds (wipeS y.2.1 vs) y.2.2).map fun z => (y.1 :: z.1, z.2)) = _
    rw [h3, Option.bind_some]
    show (eCompGo vs g tt elt ds (wipeS ρ3 vs) k1).map (fun z => (e :: z.1, z.2)) = _
    rw [h4, q1]
    rfl
/-- a loop that is gone through to its end -/
theorem for_inv (I : Nat → List Sl → Dk → Prop) : ∀ (ds : List D) (n : Nat) (ρ : List Sl) (k : Dk), I n ρ k → (∀ i d, ds[i]? = some d → ∀ ρ k, I (n + i) ρ k → ∃ ρ1 ρ2 k2, g d ρ = some ρ1 ∧ body ρ1 k = some (.nx, ρ2, k2) ∧ I (n + i + 1) ρ2 k2) →
    ∃ ρ' k', sForGo g body ds ρ k = some (.nx, ρ', k') ∧ I (n + ds.length) ρ' k'
  | [], n, ρ, k, h, _ => ⟨ρ, k, rfl, h⟩
  | d :: ds, n, ρ, k, h, H => by
    obtain ⟨ρ1, ρ2, k2, h1, h2, h3⟩ := H 0 d rfl ρ k h
    obtain ⟨ρ', k', q1, q2⟩ := for_inv I ds (n + 1) ρ2 k2 h3 fun i d' hd ρ k hI => by
      have := H (i + 1) d' (by simpa using hd) ρ k (by rw [show n + (i + 1) = n + 1 + i by omega]; exact hI)
      rw [show n + (i + 1) = n + 1 + i by omega] at this
      exact this
    refine ⟨ρ', k', ?_, by rw [List.length_cons, show n + (ds.length + 1) = n + 1 + ds.length by omega]; exact q2⟩
    unfold sForGo
    rw [h1, Option.bind_some, h2, Option.bind_some]
    exact q1
end
theorem blsOf_map {α : Type} (f : α → Bool) : ∀ l : List α, blsOf (l.map fun x => D.bl (f x)) = some (l.map f)
  | [] => rfl
  | x :: r => by
    show (blsOf (r.map fun x => D.bl (f x))).map _ = _
    rw [blsOf_map f r]; rfl
theorem gAll_map {α : Type} (f : α → Bool) (l : List α) : gAll [.lst (l.map fun x => D.bl (f x))] = some (.bl ((l.map f).all id)) := by
  show (blsOf _).map _ = _
  rw [blsOf_map]; rfl
/-- behind a turn of a loop -/
def fo (o : Out × List Sl × Dk) (f : List Sl → Dk → Option (Out × List Sl × Dk)) (_ : Tg1 f := ⟨⟩) : Option (Out × List Sl × Dk) := match o.1 with
  | .nx => f o.2.1 o.2.2
  | .ct => f o.2.1 o.2.2
  | .bk => some (.nx, o.2.1, o.2.2)
  | .rt d => some (.rt d, o.2.1, o.2.2)
  | .ex C ns es => some (.ex C ns es, o.2.1, o.2.2)
section
variable {d : D} {ds : List D} {ρ : List Sl} {k : Dk} {f : List Sl → Dk → Option (Out × List Sl × Dk)} {q : Tg1 f} {g : Tg} {body : SS}
theorem fo_nx : fo (.nx, ρ, k) f q = f ρ k := nrfl rfl
theorem fo_ct : fo (.ct, ρ, k) f q = f ρ k := nrfl rfl
theorem fo_bk : fo (.bk, ρ, k) f q = some (.nx, ρ, k) := nrfl rfl
theorem fo_rt : fo (.rt d, ρ, k) f q = some (.rt d, ρ, k) := nrfl rfl
theorem fo_ex {C : Str} {ns : List Str} {es : List D} : fo (.ex C ns es, ρ, k) f q = some (.ex C ns es, ρ, k) := nrfl rfl
theorem for_nil : sForGo g body [] ρ k = some (.nx, ρ, k) := nrfl rfl
theorem for_cons : sForGo g body (d :: ds) ρ k = (g d ρ).bnd fun ρ1 => (body ρ1 k).bnd fun x => fo x (sForGo g body ds) := nrfl rfl
end
section
variable {x0 x1 x2 x3 : D} {r : List D}
theorem it0 : gIx (.tup (x0 :: r)) (.int 0) = some x0 := ix_tup (xs := x0 :: r) (n := 0)
theorem it1 : gIx (.tup (x0 :: x1 :: r)) (.int 1) = some x1 := ix_tup (xs := x0 :: x1 :: r) (n := 1)
theorem it2 : gIx (.tup (x0 :: x1 :: x2 :: r)) (.int 2) = some x2 := ix_tup (xs := x0 :: x1 :: x2 :: r) (n := 2)
theorem it3 : gIx (.tup (x0 :: x1 :: x2 :: x3 :: r)) (.int 3) = some x3 := ix_tup (xs := x0 :: x1 :: x2 :: x3 :: r) (n := 3)
theorem il0 : gIx (.lst (x0 :: r)) (.int 0) = some x0 := ix_lst (xs := x0 :: r) (n := 0)
theorem il1 : gIx (.lst (x0 :: x1 :: r)) (.int 1) = some x1 := ix_lst (xs := x0 :: x1 :: r) (n := 1)
theorem il2 : gIx (.lst (x0 :: x1 :: x2 :: r)) (.int 2) = some x2 := ix_lst (xs := x0 :: x1 :: x2 :: r) (n := 2)
theorem il3 : gIx (.lst (x0 :: x1 :: x2 :: x3 :: r)) (.int 3) = some x3 := ix_lst (xs := x0 :: x1 :: x2 :: x3 :: r) (n := 3)
end
theorem r_mulL {i j : Int} (h : -1000000000000000 < i ∧ i < 1000000000000000) : gMul (.int i) (.int j) = some (.int (i * j)) := by
  show (if (-(2 ^ 64) < i ∧ i < 2 ^ 64) ∨ (-(2 ^ 64) < j ∧ j < 2 ^ 64) then some (D.int (i * j)) else none) = _
  rw [if_pos (.inl ⟨by omega, by omega⟩)]
theorem r_mulR {i j : Int} (h : -1000000000000000 < j ∧ j < 1000000000000000) : gMul (.int i) (.int j) = some (.int (i * j)) := by
  show (if (-(2 ^ 64) < i ∧ i < 2 ^ 64) ∨ (-(2 ^ 64) < j ∧ j < 2 ^ 64) then some (D.int (i * j)) else none) = _
  rw [if_pos (.inr ⟨by omega, by omega⟩)]
theorem r_range1 {j : Int} (h : 0 ≤ j ∧ j < 1000000000000000) : gRange1 [.int j] = some (rangeD 0 j.toNat 1) := by
  show (if -(2 ^ 62) ≤ j ∧ j < 2 ^ 62 then some (rangeD 0 j.toNat 1) else none) = _
  rw [if_pos ⟨by omega, by omega⟩]
theorem r_range2 {i j : Int} (h : 0 ≤ i ∧ i < 1000000000000000 ∧ 0 ≤ j ∧ j < 1000000000000000) : gRange2 [.int i, .int j] = some (rangeD i (j - i).toNat 1) := by
  show (if -(2 ^ 62) ≤ i ∧ i < 2 ^ 62 ∧ -(2 ^ 62) ≤ j ∧ j < 2 ^ 62 then some (rangeD i (j - i).toNat 1) else none) = _
  rw [if_pos ⟨by omega, by omega, by omega, by omega⟩]
theorem r_lstS {xs : List D} (h : xs.length ≤ 10000) : gLstD xs = some (.lst xs) := if_pos (by rw [sizeLine_eq]; omega)
theorem r_tupS {xs : List D} (h : xs.length ≤ 10000) : gTupD xs = some (.tup xs) := if_pos (by rw [sizeLine_eq]; omega)
def osm (x : D × List Sl × Dk) : Option (Option Int × List Sl × Dk) := match x.1 with
  | .int i => some (some i, x.2.1, x.2.2)
  | _ => none
theorem osm_int {i : Int} {ρ : List Sl} {k : Dk} : osm (.int i, ρ, k) = some (some i, ρ, k) := nrfl rfl
theorem ap_oNone {ρ : List Sl} {k : Dk} : oNone ρ k = some (none, ρ, k) := nrfl rfl
theorem ap_oSome {a : E} {ρ : List Sl} {k : Dk} : oSome a ρ k = (a ρ k).bind osm := nrfl rfl
theorem ap_Sl {a : E} {lo hi : EO} {ρ : List Sl} {k : Dk} : eSl a lo hi ρ k = (a ρ k).bnd fun x => (lo x.2.1 x.2.2).bnd fun l => (hi l.2.1 l.2.2).bnd fun u => (gSl x.1 l.1 u.1).mpd fun z => (z, u.2.1, u.2.2) := nrfl rfl
theorem cut_to {xs : List D} {i : Int} (h : 0 ≤ i) : cutD xs none (some i) = xs.take i.toNat := by
  obtain ⟨n, rfl⟩ := Int.eq_ofNat_of_zero_le h
  unfold cutD
  rw [HT.sIx_nat, HT.sIx_none, List.drop_zero, Nat.sub_zero, Int.toNat_natCast]
  by_cases hl : n ≤ xs.length
  · rw [Nat.min_eq_left hl]
  · rw [Nat.min_eq_right (by omega), List.take_of_length_le (Nat.le_refl _), List.take_of_length_le (by omega)]
theorem cut_from {xs : List D} {i : Int} (h : 0 ≤ i) : cutD xs (some i) none = xs.drop i.toNat := by
  obtain ⟨n, rfl⟩ := Int.eq_ofNat_of_zero_le h
  unfold cutD
  rw [HT.sIx_nat, HT.sIx_none, Int.toNat_natCast]
  by_cases hl : n ≤ xs.length
  · rw [Nat.min_eq_left hl, List.take_of_length_le (by rw [List.length_drop]; omega)]
  · rw [Nat.min_eq_right (by omega), List.drop_of_length_le (Nat.le_refl _), List.drop_of_length_le (by omega)]
    simp
theorem sl_to {xs : List D} {i : Int} (h : 0 ≤ i) : gSl (.tup xs) none (some i) = some (.tup (xs.take i.toNat)) := by
  show some (D.tup (cutD xs none (some i))) = _
  rw [cut_to h]
theorem sl_from {xs : List D} {i : Int} (h : 0 ≤ i) : gSl (.tup xs) (some i) none = some (.tup (xs.drop i.toNat)) := by
  show some (D.tup (cutD xs (some i) none)) = _
  rw [cut_from h]
theorem sl_to1 {xs : List D} : gSl (.tup xs) none (some 1) = some (.tup (xs.take 1)) := sl_to (by decide)
theorem sl_from1 {xs : List D} : gSl (.tup xs) (some 1) none = some (.tup (xs.drop 1)) := sl_from (by decide)
theorem r_addT {a b : List D} (h : a.length + b.length ≤ 10000000) : gAddB (.tup a) (.tup b) = some (.tup (a ++ b)) := by
  show (if a.length + b.length ≤ sizeLine then some (D.tup (a ++ b)) else none) = _
  rw [if_pos (by rw [sizeLine_eq]; omega)]
theorem r_addL {a b : List D} (h : a.length + b.length ≤ 10000000) : gAddB (.lst a) (.lst b) = some (.lst (a ++ b)) := by
  show (if a.length + b.length ≤ sizeLine then some (D.lst (a ++ b)) else none) = _
  rw [if_pos (by rw [sizeLine_eq]; omega)]
theorem r_addS {a b : Str} (h : a.length + b.length ≤ 10000000) : gAddB (.str a) (.str b) = some (.str (a ++ b)) := by
  show (if a.length + b.length ≤ sizeLine then some (D.str (a ++ b)) else none) = _
  rw [if_pos (by rw [sizeLine_eq]; omega)]
theorem r_rev {xs : List D} : gRev (.tup xs) = some (.tup xs.reverse) := nrfl rfl
theorem r_str {i : Int} (h : i.natAbs.log2 < 1920) : gStr [.int i] = some (.str (toString i : String)) := if_pos h
theorem r_upper {x : Str} (h : x.length ≤ 5000000) : gUpper (.str x) = some (.str (Txt.upper x)) := if_pos (by omega)
theorem r_slS {x : Str} {lo hi : Option Int} (h : x.length ≤ 10000000) : gSl (.str x) lo hi = some (.str (cutS x lo hi)) := if_pos (by rw [sizeLine_eq]; omega)
theorem r_pow {i : Int} {n : Nat} (h : n ≤ 1000000 ∧ i.natAbs < 1000000000) : gPow (.int i) (.int (n : Int)) = some (.int (i ^ n)) := by
  show (if 0 ≤ (n : Int) ∧ (n : Int) ≤ 1000000 ∧ i.natAbs < 2 ^ 64 then some (D.int (i ^ (n : Int).toNat)) else none) = _
  rw [if_pos ⟨by omega, by omega, by omega⟩, Int.toNat_natCast]
section
variable {vs : List Nat} {g : Tg} {tt elt : E} {ρ : List Sl} {k : Dk} {d : D} {ds : List D}
theorem co_nil : eCompGo vs g tt elt [] ρ k = some ([], ρ, k) := nrfl rfl
theorem co_cons : eCompGo vs g tt elt (d :: ds) ρ k = (g d ρ).bnd fun ρ1 => (tt ρ1 k).bnd fun b => bm b.1 ((elt b.2.1 b.2.2).bnd fun y => (eCompGo vs g tt elt ds (wipeS y.2.1 vs) y.2.2).mpd fun z => (y.1 :: z.1, z.2)) (eCompGo vs g tt elt ds (wipeS b.2.1 vs) b.2.2) := nrfl rfl
end
/-- own things -/
def ownD (s : Option Sl) : Option (List Key × List D) := match s with
  | some (.own (.dct ks ds)) => some (ks, ds)
  | _ => none
def ownLs (s : Option Sl) : Option (List D) := match s with
  | some (.own (.lst ds)) => some ds
  | _ => none
theorem ow_l {ds : List D} : ownLs (some (.own (.lst ds))) = some ds := nrfl rfl
theorem ow_d {ks : List Key} {ds : List D} : ownD (some (.own (.dct ks ds))) = some (ks, ds) := nrfl rfl
section
variable {i : Nat} {fs : EL} {f fk fv : E} {ρ : List Sl} {k : Dk} {ks : List Key}
theorem ap_ownL : sOwnL i fs ρ k = (fs ρ k).bnd fun x => if x.1.length ≤ sizeLine then some (.nx, x.2.1.set i (.own (.lst x.1)), x.2.2) else none := nrfl rfl
theorem ap_app : sApp i f ρ k = (ownLs ρ[i]?).bnd fun _ => (f ρ k).bnd fun x => (ownLs x.2.1[i]?).bnd fun ds => if ds.length < sizeLine then some (.nx, x.2.1.set i (.own (.lst (ds ++ [x.1]))), x.2.2) else none := by
  have key : ∀ x : D × List Sl × Dk, (match x.2.1[i]? with
      | some (.own (.lst ds)) => if ds.length < sizeLine then some (Out.nx, x.2.1.set i (.own (.lst (ds ++ [x.1]))), x.2.2) else none
      | _ => none) = (ownLs x.2.1[i]?).bind fun ds => if ds.length < sizeLine then some (Out.nx, x.2.1.set i (.own (.lst (ds ++ [x.1]))), x.2.2) else none := fun x => by
    obtain ⟨d, ρ', k'⟩ := x
    unfold ownLs
    cases hρ : ρ'[i]? with
    | none => rfl
    | some s =>
      cases s with
      | no => rfl
      | val c => rfl
      | own c => cases c <;> rfl
  have e : (fun x : D × List Sl × Dk => (match x.2.1[i]? with
      | some (.own (.lst ds)) => if ds.length < sizeLine then some (Out.nx, x.2.1.set i (.own (.lst (ds ++ [x.1]))), x.2.2) else none
      | _ => none)) = fun x => (ownLs x.2.1[i]?).bind fun ds => if ds.length < sizeLine then some (Out.nx, x.2.1.set i (.own (.lst (ds ++ [x.1]))), x.2.2) else none := funext key
  unfold sApp ownLs
  cases hρ : ρ[i]? with
  | none => rfl
  | some s =>
    cases s with
    | no => rfl
    | val c => rfl
    | own c => cases c <;> first | rfl | exact congrArg ((f ρ k).bind) e
def lstD : D → Option (List D)
  | .lst ds => some ds
  | _ => none
theorem ls_l {ds : List D} : lstD (.lst ds) = some ds := nrfl rfl
theorem ap_ext : sExt i f ρ k = (ownLs ρ[i]?).bnd fun _ => (f ρ k).bnd fun x => (ownLs x.2.1[i]?).bnd fun ds => (lstD x.1).bnd fun es => if ds.length + es.length ≤ sizeLine then some (.nx, x.2.1.set i (.own (.lst (ds ++ es))), x.2.2) else none := by
  have key : ∀ x : D × List Sl × Dk, (match x.2.1[i]?, x.1 with
      | some (.own (.lst ds)), .lst es => if ds.length + es.length ≤ sizeLine then some (Out.nx, x.2.1.set i (.own (.lst (ds ++ es))), x.2.2) else none
      | _, _ => none) = (ownLs x.2.1[i]?).bnd fun ds => (lstD x.1).bnd fun es => if ds.length + es.length ≤ sizeLine then some (.nx, x.2.1.set i (.own (.lst (ds ++ es))), x.2.2) else none := fun x => by
    obtain ⟨d, ρ', k'⟩ := x
    cases hρ : ρ'[i]? with
    | none => cases d <;> rfl
    | some s =>
      cases s with
      | no => cases d <;> rfl
      | val c => cases d <;> rfl
      | own c => cases c <;> cases d <;> rfl
  unfold sExt
  cases hρ : ρ[i]? with
  | none => rfl
  | some s =>
    cases s with
    | no => rfl
    | val c => rfl
    | own c => cases c <;> first | rfl | exact congrArg ((f ρ k).bind) (funext key)
end
end WS
namespace WS
open PySem PySem.Spec PyProof.Rows L2

/-! ## data of a bounded size -/
def asc (x : Str) : Bool := x.cps.toList.all fun c => decide (c < 128)
mutual
/-- its leaves: truths, none, texts of plain signs, numbers to M -/
def lf (M : Nat) : D → Bool
  | .non | .bl _ => true
  | .int i => decide (i.natAbs ≤ M)
  | .str x => asc x
  | .tup xs | .lst xs => lfs M xs
  | .dct ks vs => ks.isEmpty && vs.isEmpty
  | _ => false
def lfs (M : Nat) : List D → Bool
  | [] => true
  | x :: r => lf M x && lfs M r
end
mutual
/-- its weight -/
def wt : D → Nat
  | .int _ => 200
  | .str x => x.length
  | .tup xs | .lst xs => wts xs
  | _ => 0
def wts : List D → Nat
  | [] => 0
  | x :: r => wt x + 1 + wts r
end
mutual
/-- its depth -/
def dpt : D → Nat
  | .tup xs | .lst xs => dpts xs + 1
  | .dct _ _ => 1
  | _ => 0
def dpts : List D → Nat
  | [] => 0
  | x :: r => max (dpt x) (dpts r)
end
theorem lfs_mem {M : Nat} {l : List D} : lfs M l = true ↔ ∀ d ∈ l, lf M d = true := by
  induction l with
  | nil => simp [lfs]
  | cons x r ih => simp [lfs, ih]
theorem wts_len : ∀ l : List D, l.length ≤ wts l
  | [] => Nat.le_refl _
  | x :: r => by have := wts_len r; simp only [List.length_cons, wts]; omega
theorem wts_app : ∀ l r : List D, wts (l ++ r) = wts l + wts r
  | [], r => by simp [wts]
  | x :: l, r => by simp only [List.cons_append, wts, wts_app l r]; omega
theorem wts_mem : ∀ {l : List D} {x : D}, x ∈ l → wt x + 1 ≤ wts l
  | y :: r, x, h => by
    simp only [wts]
    rcases List.mem_cons.mp h with e | h
    · subst e; omega
    · have := wts_mem h; omega
theorem wts_take (n : Nat) (l : List D) : wts (l.take n) ≤ wts l := by
  have := wts_app (l.take n) (l.drop n)
  rw [List.take_append_drop] at this; omega
theorem wts_drop (n : Nat) (l : List D) : wts (l.drop n) ≤ wts l := by
  have := wts_app (l.take n) (l.drop n)
  rw [List.take_append_drop] at this; omega
theorem wts_rev : ∀ l : List D, wts l.reverse = wts l
  | [] => rfl
  | x :: r => by rw [List.reverse_cons, wts_app, wts_rev r]; simp only [wts]; omega
theorem dpts_le {l : List D} {n : Nat} : dpts l ≤ n ↔ ∀ d ∈ l, dpt d ≤ n := by
  induction l with
  | nil => simp [dpts]
  | cons x r ih => simp [dpts, Nat.max_le, ih]
theorem dpts_mem {l : List D} {d : D} (h : d ∈ l) : dpt d ≤ dpts l := dpts_le.mp (Nat.le_refl _) d h
mutual
theorem lf_mono {M M' : Nat} (h : M ≤ M') : ∀ {d : D}, lf M d = true → lf M' d = true
  | .non, _ => rfl
  | .bl _, _ => rfl
  | .int i, e => by
    unfold lf at e ⊢
    exact decide_eq_true (Nat.le_trans (of_decide_eq_true e) h)
  | .str x, e => e
  | .tup xs, e => by unfold lf at e ⊢; exact lfs_mono h e
  | .lst xs, e => by unfold lf at e ⊢; exact lfs_mono h e
  | .dct ks vs, e => e
  | .rdl _, e => e
  | .ins _ _ _, e => e
  | .ty _, e => e
  | .obj _, e => e
  | .deck, e => e
theorem lfs_mono {M M' : Nat} (h : M ≤ M') : ∀ {l : List D}, lfs M l = true → lfs M' l = true
  | [], _ => rfl
  | x :: r, e => by
    unfold lfs at e ⊢
    rw [Bool.and_eq_true] at e ⊢
    exact ⟨lf_mono h e.1, lfs_mono h e.2⟩
end

/-! ### repr of such -/
mutual
theorem toR_lf {M : Nat} (hM : M ≤ 10 ^ 55) : ∀ {d : D}, lf M d = true → ∃ p, toR d = some p ∧ p.showable = true ∧ p.depth ≤ dpt d ∧ p.weight ≤ wt d ∧ p.leavesShort 60 = true
  | .non, _ => ⟨.none, by simp only [toR], rfl, Nat.le_refl _, Nat.le_refl _, rfl⟩
  | .bl b, _ => ⟨.bool b, by simp only [toR], rfl, Nat.le_refl _, Nat.le_refl _, rfl⟩
  | .int i, e => by
    have hi : i.natAbs ≤ M := of_decide_eq_true (by simpa only [lf] using e)
    have h1 : i.natAbs < 10 ^ 56 := by
      have : (10 : Nat) ^ 55 < 10 ^ 56 := by decide
      omega
    have h2 : i.natAbs.log2 < 187 := by
      by_cases h0 : i.natAbs = 0
      · rw [h0]; decide
      · exact (Nat.log2_lt h0).mpr (Nat.lt_trans h1 (by decide))
    refine ⟨.int i, by simp only [toR], ?_, Nat.le_refl _, ?_, ?_⟩
    · simp only [PyData.showable, decide_eq_true_eq]; omega
    · simp only [PyData.weight, wt]; split <;> omega
    · have h3 := int_text_length_le10 (a := i) (k := 56) (by decide) h1
      have h4 : (PyData.shown (.int i)).length ≤ 60 := by
        show (Str.ofString (toString i)).length ≤ 60
        rw [PySem.ofString_length]
        omega
      simp only [PyData.leavesShort]
      exact decide_eq_true h4
  | .str x, e => by
    have hx : ∀ c ∈ x.cps.toList, c < 128 := by
      have : asc x = true := by simpa only [lf] using e
      unfold asc at this
      exact fun c hc => of_decide_eq_true (List.all_eq_true.mp this c hc)
    refine ⟨.str x, by simp only [toR], rfl, Nat.le_refl _, Nat.le_refl _, ?_⟩
    simp only [PyData.leavesShort, List.all_eq_true, decide_eq_true_eq]
    exact fun c hc => Nat.lt_trans (hx c hc) (by decide)
  | .tup xs, e => by
    obtain ⟨ps, h1, h2, h3, h4, h5⟩ := toRs_lf hM (show lfs M xs = true by simpa only [lf] using e)
    refine ⟨.tuple ps, by simp only [toR, h1, Option.map_some], h2, ?_, ?_, h5⟩
    · simp only [PyData.depth, dpt]; omega
    · simp only [PyData.weight, wt]; omega
  | .lst xs, e => by
    obtain ⟨ps, h1, h2, h3, h4, h5⟩ := toRs_lf hM (show lfs M xs = true by simpa only [lf] using e)
    refine ⟨.list ps, by simp only [toR, h1, Option.map_some], h2, ?_, ?_, h5⟩
    · simp only [PyData.depth, dpt]; omega
    · simp only [PyData.weight, wt]; omega
  | .dct ks vs, e => by
    have e' : ks.isEmpty = true ∧ vs.isEmpty = true := by simpa only [lf, Bool.and_eq_true] using e
    have h1 := List.isEmpty_iff.mp e'.1
    have h2 := List.isEmpty_iff.mp e'.2
    subst h1 h2
    exact ⟨.dict [], by simp only [toR, toRs]; rfl, rfl, by simp only [PyData.depth, PyData.depthKv, dpt]; omega, Nat.le_refl _, rfl⟩
  | .rdl _, e => by simp only [lf] at e; cases e
  | .ins _ _ _, e => by simp only [lf] at e; cases e
  | .ty _, e => by simp only [lf] at e; cases e
  | .obj _, e => by simp only [lf] at e; cases e
  | .deck, e => by simp only [lf] at e; cases e
theorem toRs_lf {M : Nat} (hM : M ≤ 10 ^ 55) : ∀ {l : List D}, lfs M l = true → ∃ ps, toRs l = some ps ∧ PyData.showableAll ps = true ∧ PyData.depthAll ps ≤ dpts l ∧ PyData.weightAll ps ≤ wts l ∧ PyData.leavesShortAll 60 ps = true
  | [], _ => ⟨[], by simp only [toRs], rfl, Nat.le_refl _, Nat.le_refl _, rfl⟩
  | x :: r, e => by
    have e' : lf M x = true ∧ lfs M r = true := by simpa only [lfs, Bool.and_eq_true] using e
    obtain ⟨p, h1, h2, h3, h4, h5⟩ := toR_lf hM e'.1
    obtain ⟨ps, q1, q2, q3, q4, q5⟩ := toRs_lf hM e'.2
    refine ⟨p :: ps, by simp only [toRs, h1, q1, Option.bind_some, Option.map_some], ?_, ?_, ?_, ?_⟩
    · simp only [PyData.showableAll, h2, q2, Bool.and_self]
    · simp only [PyData.depthAll, dpts]; omega
    · simp only [PyData.weightAll, wts]; omega
    · simp only [PyData.leavesShortAll, h5, q5, Bool.and_self]
end
theorem repr_lf {M : Nat} {d : D} (h : lf M d = true) (hM : M ≤ 10 ^ 55) (hw : wt d ≤ 250000) (hd : dpt d ≤ 60) : ∃ x, gRepr [d] = some (.str x) := by
  obtain ⟨p, h1, h2, h3, h4, h5⟩ := toR_lf hM h
  have h6 := PyData.shown_le 60 (by omega) p h5
  refine ⟨p.shown, ?_⟩
  show ((toR d).bind fun p => if p.showable = true ∧ p.depth ≤ 60 ∧ p.shown.length ≤ sizeLine then some (D.str p.shown) else none) = _
  rw [h1, Option.bind_some, if_pos ⟨h2, by omega, by rw [sizeLine_eq]; omega⟩]
end WS
namespace WS
open PySem PySem.Spec PyProof.Rows L2
/-! ### texts of plain signs -/
theorem asc_iff {x : Str} : asc x = true ↔ ∀ c ∈ x.cps.toList, c < 128 := by
  unfold asc
  rw [List.all_eq_true]
  exact ⟨fun h c hc => of_decide_eq_true (h c hc), fun h c hc => decide_eq_true (h c hc)⟩
theorem asc_app {x y : Str} (hx : asc x = true) (hy : asc y = true) : asc (x ++ y) = true := by
  rw [asc_iff] at hx hy ⊢
  intro c hc
  have : (x ++ y).cps.toList = x.cps.toList ++ y.cps.toList := by
    show (x.cps ++ y.cps).toList = _
    simp
  rw [this, List.mem_append] at hc
  exact hc.elim (hx c) (hy c)
theorem asc_cut {x : Str} (hx : asc x = true) (lo hi : Option Int) : asc (cutS x lo hi) = true := by
  rw [asc_iff] at hx ⊢
  intro c hc
  unfold cutS at hc
  exact hx c (List.mem_of_mem_drop (List.mem_of_mem_take (by simpa using hc)))
theorem up_asc : ∀ c, c < 128 → ∀ c' ∈ Unicode.upperOf c, c' < 128 := by decide +kernel
theorem asc_upper {x : Str} (hx : asc x = true) : asc (Txt.upper x) = true := by
  rw [asc_iff] at hx ⊢
  intro c hc
  unfold Txt.upper placed at hc
  simp only [Array.mem_toList_iff, Array.mem_flatten, Array.mem_mapIdx] at hc
  obtain ⟨xs, ⟨i, hi, rfl⟩, hm⟩ := hc
  exact up_asc _ (hx x.cps[i] (by simp)) c (by simpa using hm)
theorem len_cut {x : Str} {lo hi : Option Int} : (cutS x lo hi).length ≤ x.length := by
  unfold cutS
  show (List.toArray _).size ≤ x.cps.size
  rw [List.size_toArray, List.length_take, List.length_drop, Array.length_toList]
  omega
theorem len_up (x : Str) : (Txt.upper x).length ≤ 3 * x.length := PyProof.Rows.len_upper x
theorem len_int {i : Int} (h : i.natAbs ≤ 10 ^ 55) : (Str.ofString (toString i)).length ≤ 57 := by
  have h1 : i.natAbs < 10 ^ 56 := Nat.lt_of_le_of_lt h (by decide)
  rw [PySem.ofString_length]
  exact int_text_length_le10 (by decide) h1
end WS
namespace WS
open PySem PySem.Spec PyProof.Rows L2
theorem int_asc (i : Int) : ∀ c ∈ (Str.ofString (toString i)).cps.toList, c < 128 := fun c hc => by
  by_cases h : c < 128
  · exact h
  · exact absurd hc (PyProof.Rows.int_text_free' c ⟨by omega, .inr (by omega)⟩ i)
end WS
namespace WS
open PySem PySem.Spec PyProof.Rows L2

/-! ## a law's head -/
section
variable {K : PySem.W.Frag} {mg : Str → Option Value} {h : Heap}
theorem df_mk (KX : K.In h) (G : h.Ns mainGlobals mg) {x : Str} {st : Stmt} {f : Addr} {oc : Value} {od an : Option Addr} {osl : Array (Option Value)} {kV doc pm cdv ct : Value} (m : PySem.W.nsIn K mainGlobals x = some (some (.ref f)))
    (l : K.lookup f = some ⟨oc, od, .func (PySem.W.fnOf x x (defArgs st) (defBody st) (defScope st) .none kV doc pm an cdv ct), osl⟩) (c : PySem.W.codeIn K cdv x = true) (k : PySem.W.keepIn K (.ref f) = true) : Df K mg x st :=
  ⟨f, _, fun_mk l c k, PySem.W.mg_of KX G m⟩
theorem nb_mk (KX : K.In h) (G : h.Ns mainGlobals mg) {x : Str} (m : PySem.W.nsIn K mainGlobals x = some none) : mg x = none := PySem.W.mg_none_of KX G m
theorem gk_mk (KX : K.In h) (G : h.Ns mainGlobals mg) {x : Str} {u : Value} {d : D} (m : PySem.W.nsIn K mainGlobals x = some (some u)) (r : RpK K u d) : Gk K mg x d := ⟨u, PySem.W.mg_of KX G m, r⟩
theorem gt_mk (KX : K.In h) (G : h.Ns mainGlobals mg) {w : World} {x : Str} {a : Addr} {tab : List (Str × D)} (m : PySem.W.nsIn K mainGlobals x = some (some (.ref a))) (T : KTab K w a tab) : Gt K w mg x tab := ⟨a, PySem.W.mg_of KX G m, T⟩
theorem fn_mk {P : Program} {w : World} {base : Heap} {k : Nat} {x : Str} {st : Stmt} {N ps : List Str} (body : SS) (n m : Nat) {f : Addr} {fd : FuncData} (Fu : Fun K x x st f fd) (SC : FnScope N ps (defScope st)) (hps : ps.length = n) (hm : N.length = m) (hN : n ≤ m)
    (hb : ∀ (f : Addr) (cdv : Value) (A : Around) (outer : List Env) (s : Shared) (H : Hp) (E : XK), A.guards = some [] → Room k (A.deeper (envOfC x (defScope st) s.heap.objs.size f cdv)) →
      PSs (cxOf CX0 P w K mg base N x (defScope st) f cdv A outer s H E).nox (defBody st) (TSv K W0 body)) : FnG P w K mg base CX0 (k + 1) f fd ps (spS K n (runS m body)) := by
  subst hm
  exact fnS n hps hN Fu SC (hb f)
/-- how the law's def binds -/
theorem fun_bind {x y : Str} {st : Stmt} {f : Addr} {fd : FuncData} (Fu : Fun K x x st f fd) (hb : ∀ (kV doc pm : Value) (an : Option Addr) (cdv ct : Value) (u : Value), bindArgs (PySem.W.fnOf x x (defArgs st) (defBody st) (defScope st) .none kV doc pm an cdv ct) ⟨[u], []⟩ = pure [(y, u)]) (s : Shared) (u : Value) : BindsTo s fd ⟨[u], []⟩ [(y, u)] := by
  obtain ⟨oc, od, kV, doc, pm, an, cdv, ct, osl, rfl, lk, hcd⟩ := Fu.ex
  exact .of_eq (hb kV doc pm an cdv ct u)
/-- the law answers True -/
theorem sp_true {F : Fn} (hF : ∀ ns : List Int, ns.length ≤ 63 → ∃ k', F [.rdl (ns.map D.int)] none = some (.bl true, k')) (K : PySem.W.Frag) (H : Hp) (a : Addr) (ns : List Int) (hl : ns.length ≤ 63) (hO : Only H) (hs : SqL K H a (ns.map V.int)) :
    spS K 1 F [.ref a] H (fun v _ => v = .bl true) fun _ _ _ => False := by
  obtain ⟨k', e⟩ := hF ns hl
  refine ⟨rfl, ⟨H, none⟩, fun _ => none, _, none, _, k', ⟨Sub.refl _, fun _ _ z => (nomatch z), fun _ _ z => (nomatch z), rfl, fun i s e => by simp at e, fun i j d e p h => by simp at h, rfl⟩, .cons (.rdl hs (RpL.ints ns)) .nil, e, fun v H' S' _ _ r => ?_⟩
  cases r
  rfl
end
end WS
namespace WS
open PySem PySem.Spec PyProof.Rows L2

/-! ## sorted -/
section
variable {P : Program} {w : World} {A : Around} {E : Value → Shared → Prop} {s : Shared}
/-- sorted of what may be collected -/
theorem sorted_run {x : Value} {ltv : Value → Value → Bool} {G : List Value → Shared → Prop} {Q : Value → Shared → Prop} (O : SrtO.Swo ltv)
    (hcol : ∀ R : List Value → Shared → Prop, (∀ vs s1, G vs s1 → R vs s1) → wpAny (model P w) A.in1 (collect x) R E s)
    (hlen : ∀ vs s1, G vs s1 → vs.length ≤ sizeLine)
    (hsrt : ∀ vs s1, G vs s1 → 2 ≤ vs.length → SrtO.SortableO P w A.in1.in1 { s1 with heap := s1.heap.push (seqObj "list" vs.toArray 0) } s1.heap.objs.size vs ltv)
    (hfin : ∀ vs s1 out h', G vs s1 → SrtO.Srtd ltv out → SrtO.Stb ltv out vs → (∀ b o, s1.heap.get? b = some o → h'.get? b = some o) → (∃ c, h'.get? s1.heap.objs.size = some (seqObj "list" out.toArray c)) → Q (.ref s1.heap.objs.size) { s1 with heap := h' }) :
    wpAny (model P w) A (call (.builtin "sorted") [x]) Q E s := by
  refine Calls.call_function_entry PyProof.Rows.kind_sorted PyProof.Rows.plain_sorted PyProof.Rows.entry_sorted (PyProof.Rows.args_sorted1 x) ?body
  show wpAny _ A.in1 (Builtin.«sorted» ⟨[x], []⟩) _ _ s
  unfold Builtin.«sorted»
  refine wpAny_bind (m := checkCount "sorted" 1 1 _) (wpAny_pure ?c)
  refine wpAny_bind (hcol _ fun vs s1 g => ?d)
  refine wpAny_bind (wpAny_newList ?e (hlen vs s1 g))
  have at_ : (s1.heap.push (seqObj "list" vs.toArray 0)).get? s1.heap.objs.size = some (seqObj "list" vs.toArray 0) := Heap.get?_push_size s1.heap rfl
  refine wpAny_bind (wpAny_holding (wpAny_call_entry PyProof.Rows.slot_list_sort ⟨_, at_, rfl⟩ PyProof.Rows.entry_list_sort (SrtO.list_sort_ord O at_ (hlen vs s1 g) (hsrt vs s1 g) fun out h1 h2 => ⟨.none, rfl, ?f⟩) (PyProof.Rows.args_list_sort _)))
  obtain ⟨c, hc⟩ := PyProof.Rows.sortedHeap_at (vs := vs) (out := out.toArray) at_
  refine wpAny_pure ⟨_, rfl, hfin vs s1 out _ g h1 h2 (fun b o e => ?k) ⟨c, hc⟩⟩
  have lt := Heap.lt_size e
  refine (PyProof.Rows.sortedHeap_old (Nat.ne_of_lt lt) ?_).trans (Heap.get?_push_of_some _ e)
  rw [PyProof.Rows.size_push']
  exact Nat.lt_succ_of_lt lt
end

def isort (ns : List Int) : List Int := ns.mergeSort fun a b => decide (a ≤ b)
theorem isort_perm (ns : List Int) : (isort ns).Perm ns := List.mergeSort_perm ns _
theorem isort_sorted (ns : List Int) : (isort ns).Pairwise (· ≤ ·) := by
  have := List.pairwise_mergeSort (le := fun a b : Int => decide (a ≤ b)) (fun a b c h1 h2 => by simp only [decide_eq_true_eq] at *; omega) (fun a b => by simp only [Bool.or_eq_true, decide_eq_true_eq]; omega) ns
  exact this.imp fun h => by simpa using h
theorem isort_uniq {ns ms : List Int} (h : ms.Perm ns) (s : ms.Pairwise (· ≤ ·)) : ms = isort ns :=
  List.Perm.eq_of_pairwise (fun a b _ _ h1 h2 => Int.le_antisymm h1 h2) s (isort_sorted ns) (h.trans (isort_perm ns).symm)
/-- the members of a list, rising -/
def dedI : List Int → List Int
  | [] => []
  | a :: r => if a ∈ r then dedI r else a :: dedI r
theorem mem_dedI {k : Int} : ∀ {ns : List Int}, k ∈ dedI ns ↔ k ∈ ns
  | [] => Iff.rfl
  | a :: r => by
    unfold dedI
    split
    · rename_i h
      rw [mem_dedI, List.mem_cons]
      constructor
      · exact .inr
      · rintro (e | e)
        · subst e; exact h
        · exact e
    · rw [List.mem_cons, List.mem_cons, mem_dedI]
theorem nodup_dedI : ∀ ns : List Int, (dedI ns).Nodup
  | [] => List.Pairwise.nil
  | a :: r => by
    unfold dedI
    split
    · exact nodup_dedI r
    · rename_i h
      exact List.nodup_cons.mpr ⟨fun z => h (mem_dedI.mp z), nodup_dedI r⟩
def usort (ns : List Int) : List Int := isort (dedI ns)
theorem mem_usort {ns : List Int} {k : Int} : k ∈ usort ns ↔ k ∈ ns := by
  unfold usort
  rw [(isort_perm _).mem_iff, mem_dedI]
end WS
namespace WS
open PySem PySem.Spec PyProof.Rows L2

/-! ## set(a list of whole numbers) -/
def freshSet (w : World) : Obj := { cls := .type "set", dict := none, data := .set #[] 0 (.fresh 0 0 (!w.params.followText "set-order")) }
section
variable {P : Program} {w : World} {A : Around} {E : Value → Shared → Prop} {s : Shared} {l : Addr} {us : Array Value} {ns : List Int} {h0 : Heap} {Q : Value → Shared → Prop}
/-- set(l), l a list of whole numbers -/
theorem call_set_ls {o : Obj} {n : Nat} (calm : A.handled = none) (ho : s.heap.get? l = some o) (hc : o.cls = .type "list") (hd : o.data = .seq us n) (hi : IntsAre us.toList ns) (hb : ns.length + 1 < scanBound)
    (fin : ∀ (h' : Heap) (tk c : Nat), SetR w h' s.heap.objs.size (fun j => decide (j ∈ ns)) c → c ≤ ns.length → (∀ b u, s.heap.get? b = some u → h'.get? b = some u) → Q (.ref s.heap.objs.size) { s with heap := h', toks := tk }) :
    wpAny (model P w) A (call (.type "set") [.ref l]) Q E s := by
  have many : us.size = ns.length := by rw [← Array.length_toList]; exact hi.length
  have new_at : (s.heap.push (freshSet w)).get? s.heap.objs.size = some (freshSet w) := Heap.get?_push_size s.heap rfl
  have lst_at : (s.heap.push (freshSet w)).get? l = some o := Heap.get?_push_of_some _ ho
  have isl : (s.heap.push (freshSet w)).IsList l us := ⟨o, lst_at, hc, n, hd⟩
  have below : l < s.heap.objs.size := Heap.lt_size ho
  have sz : (s.heap.push (freshSet w)).objs.size = s.heap.objs.size + 1 := Heap.size_push ..
  have m1 := F.called_set.made
  have m2 := F.called_set.sub
  have m3 := F.called_set.notType
  have m4 := F.called_set.canCreate
  have m5 := F.typeCall_set_1 (.ref l)
  have m6 := F.called_set.init.lookup
  have m7 := F.called_set.init.bind (.ref s.heap.objs.size)
  obtain ⟨c, tl, m8⟩ := F.called_set.mro
  have ty : Shared.TypeIs { s with heap := s.heap.push (freshSet w) } (.ref s.heap.objs.size) "set" := ⟨_, new_at, rfl⟩
  refine wpAny_call (codeAny_of_tree ?tree)
  show wpAny _ _ (callAny (.type "set") _) _ _ _
  refine wpAny_pure ⟨Code.quiet_builtin _ (by decide +kernel), codeAny_builtin F.entry_type_call ?in_⟩
  rw [Around.under_plain (weight_type_call_type "set" [.ref l] []) rfl]
  repeat (any_goals (first | wp_step | assumption))
  refine codeAny_mono (code_set_led1 (.ref l) (E := E) (Q₁ := fun r s1 => r = .ref s.heap.objs.size ∧ s1 = { s with heap := s.heap.push (freshSet w) }) ⟨rfl, rfl⟩) fun r s1 hr => ?new
  match r, hr with
  | .error e, hr => exact hr
  | .ok .next, hr => exact hr.elim
  | .ok .brk, hr => exact hr.elim
  | .ok .cont, hr => exact hr.elim
  | .ok (.ret _), ⟨e1, e2⟩ =>
    subst e1 e2
    repeat (any_goals (first | wp_step | assumption))
    let good : Value → Shared → Prop := fun r s2 => r = .none ∧ ∃ (h' : Heap) (tk c : Nat), s2 = { s with heap := h', toks := tk } ∧ SetR w h' s.heap.objs.size (fun j => decide (j ∈ ns)) c ∧ c ≤ ns.length ∧ ∀ b u, s.heap.get? b = some u → h'.get? b = some u
    refine codeAny_mono (codeAny_call_builtin (R := wants good E) F.called_set.init.plain F.entry_set_init (check_set_init_1 ty ?fill)) fun r s2 hr => ?end_
    case end_ =>
      match r, hr with
      | .error e, hr => exact hr
      | .ok .next, hr => exact hr.elim
      | .ok .brk, hr => exact hr.elim
      | .ok .cont, hr => exact hr.elim
      | .ok (.ret _), ⟨e1, h', tk, c', e2, g1, g2, g3⟩ =>
        subst e1 e2
        repeat (any_goals (first | wp_step | assumption))
        exact fin _ _ _ g1 g2 g3
    case fill =>
      have q1 := F.sub_list_set
      have q2 := F.sub_list_frozenset
      have q3 : (Value.type "list" == Value.type "dict") = false := by decide
      obtain ⟨c0, d0, dt, sl⟩ := o
      dsimp only at hc hd
      subst hc hd
      unfold Builtin.«set.__init__» noKeywords Builtin.Frozenset.updateFrom
      generalize hPI : pyIter = PI
      wp_walk
      subst hPI
      refine wpAny_pyIter_list isl (wpAny_bind (wpAny_runValue ?loop))
      have itn : s.heap.objs.size ∉ [(s.heap.push (freshSet w)).objs.size, l] := by
        rw [sz]
        intro z
        rcases List.mem_cons.mp z with z | z
        · exact absurd z (Nat.ne_of_lt (Nat.lt_succ_self _))
        · exact absurd (List.mem_singleton.mp z) (Nat.ne_of_gt below)
      have lne : l ≠ (s.heap.push (freshSet w)).objs.size := by rw [sz]; exact Nat.ne_of_lt (Nat.lt_succ_of_lt below)
      have each : ∀ (i : Nat) (v : Value), us[i]? = some v → ∃ k t, ns[i]? = some k ∧ v = .int k t := fun i v hv => by
        have lt : i < ns.length := by rw [← many]; exact (Array.getElem?_eq_some_iff.mp hv).1
        obtain ⟨t, e⟩ := hi.int_at i v (by rw [Array.getElem?_toList]; exact hv)
        refine ⟨ns[i], t, List.getElem?_eq_getElem lt, ?_⟩
        rw [e, List.getD_eq_getElem?_getD, List.getElem?_eq_getElem lt] <;> rfl
      have calm3 : A.in1.in1.in1.handled = none := by simp [calm]
      refine set_update_ints ((Walks.list calm3 _ l lne us).toS) s.heap.objs.size itn ns many hb each (us.size - 0) 0 _ (by omega) (Nat.zero_le _) ⟨⟨_, Heap.get?_push_size _ rfl, rfl, rfl⟩, isl.push _⟩
        ⟨0, Nat.le_refl 0, setR_new_at (Heap.get?_push_of_some _ new_at)⟩ fun s3 c3 mv h3 R3 => ?done
      obtain ⟨hh, gg, dd, tt, oo⟩ := s3
      have e1 : gg = s.gens := mv.gens
      have e2 : dd = s.drawn := mv.drawn
      have e3 : oo = s.os := mv.os
      subst e1 e2 e3
      show wpAny _ _ _ _ _ _
      refine wpAny_pure ?r2
      show wpAny _ _ (ret Value.none) _ _ _
      refine wpAny_pure ⟨rfl, hh, tt, c3, rfl, R3, by rw [← many]; exact h3, fun b u e => mv.heap b u (fun z => ?ne) (Heap.get?_push_of_some _ (Heap.get?_push_of_some _ e))⟩
      have lt := Heap.lt_size e
      rcases List.mem_cons.mp z with z | z
      · exact absurd z (Nat.ne_of_lt lt)
      · rw [List.mem_singleton, sz] at z; exact absurd z (Nat.ne_of_lt (Nat.lt_succ_of_lt lt))
end
end WS
namespace WS
open PySem PySem.Spec PyProof.Rows L2

def pairOf : D → Option (Int × Int)
  | .tup [.int a, .int b] => some (a, b)
  | _ => none
def pairsOfD : List D → Option (List (Int × Int))
  | [] => some []
  | d :: r => (pairOf d).bind fun p => (pairsOfD r).map fun q => p :: q
def lexLe (p q : Int × Int) : Bool := decide (p.1 < q.1) || (decide (p.1 = q.1) && decide (p.2 ≤ q.2))
theorem lexLe_iff {p q : Int × Int} : lexLe p q = true ↔ p.1 < q.1 ∨ (p.1 = q.1 ∧ p.2 ≤ q.2) := by
  unfold lexLe
  simp only [Bool.or_eq_true, Bool.and_eq_true, decide_eq_true_eq]
def psort (ps : List (Int × Int)) : List (Int × Int) := ps.mergeSort lexLe
theorem psort_perm (ps : List (Int × Int)) : (psort ps).Perm ps := List.mergeSort_perm ps _
theorem psort_sorted (ps : List (Int × Int)) : (psort ps).Pairwise fun p q => lexLe p q = true :=
  List.pairwise_mergeSort (fun a b c h1 h2 => by rw [lexLe_iff] at *; omega) (fun a b => by
    cases h : lexLe a b
    · have h' : ¬ lexLe a b = true := by rw [h]; exact Bool.false_ne_true
      rw [lexLe_iff] at h'
      rw [Bool.false_or, lexLe_iff]; omega
    · rfl) ps
theorem psort_uniq {ps qs : List (Int × Int)} (h : qs.Perm ps) (s : qs.Pairwise fun p q => lexLe p q = true) : qs = psort ps :=
  List.Perm.eq_of_pairwise (le := fun p q => lexLe p q = true) (fun a b _ _ h1 h2 => by
    rw [lexLe_iff] at h1 h2
    exact Prod.ext (by omega) (by omega)) s (psort_sorted ps) (h.trans (psort_perm ps).symm)
def pairD (p : Int × Int) : D := .tup [.int p.1, .int p.2]
def sortD (ds : List D) : Option D := match intsOf ds with
  | some ns => some (.lst ((isort ns).map .int))
  | none => (pairsOfD ds).map fun ps => .lst ((psort ps).map pairD)
def gSorted : List D → Option D
  | [.lst ds] => sortD ds
  | [.rdl ds] => sortD ds
  | [.tup ds] => sortD ds
  | _ => none
def PairAt (K : PySem.W.Frag) (H : Hp) (x : V) (p : Int × Int) : Prop := ∃ t, x = V.ref t ∧ SqT K H t [.int p.1, .int p.2]
theorem all2_map {α β : Type} {R : α → β → Prop} {f : α → β} : ∀ {l : List α}, (∀ x ∈ l, R x (f x)) → All2 R l (l.map f)
  | [], _ => .nil
  | x :: r, h => .cons (h x (by simp)) (all2_map fun y hy => h y (by simp [hy]))
theorem all2_eq {α β : Type} {R : α → β → Prop} {f : α → β} {l : List α} {m : List β} (h : All2 R l m) (hf : ∀ x p, R x p → f x = p) : l.map f = m := by
  induction h with
  | nil => rfl
  | cons h _ ih => rw [List.map_cons, hf _ _ h, ih]
theorem all2_left {α β : Type} {R : α → β → Prop} {l : List α} {m : List β} (h : All2 R l m) : ∀ x ∈ l, ∃ p, R x p := by
  induction h with
  | nil => intro x hx; simp at hx
  | cons h _ ih =>
    intro x hx
    rcases List.mem_cons.mp hx with e | hx
    · subst e; exact ⟨_, h⟩
    · exact ih x hx
/-- sorted by values -/
def rSort (K : PySem.W.Frag) : List V → Hp → VK → Prop := fun xs H Q => ∃ (a : Addr) (vs : List V), xs = [.ref a] ∧ (SqL K H a vs ∨ SqT K H a vs) ∧
  ((∃ ns : List Int, vs = ns.map V.int ∧ ∀ p, H p = none → Q (.ref p) (upd H p (.lst ((isort ns).map V.int)))) ∨
   (∃ (B : V → Int × Int → Prop) (ps : List (Int × Int)), (∀ x p, B x p → PairAt K H x p) ∧ All2 B vs ps ∧ ∀ ys p, All2 B ys (psort ps) → H p = none → Q (.ref p) (upd H p (.lst ys))))
theorem seq_at {X : Cx} {pins : List (Addr × Obj)} {σ : L2.St} {H : Hp} {s : Shared} {a : Addr} {vs : List V} (I : Inv X pins σ H s) (h : SqL X.K H a vs ∨ SqT X.K H a vs) :
    ∃ (its : List Value) (T : String) (o : Obj) (n : Nat), Vals vs its ∧ (T = "list" ∨ T = "tuple") ∧ s.heap.get? a = some o ∧ o.cls = .type T ∧ o.data = .seq its.toArray n ∧ vs.length ≤ sizeLine := by
  rcases h with h | h
  · obtain ⟨its, rv, ⟨o, n, e, c, _, d⟩, z⟩ := I.list h
    exact ⟨its, "list", o, n, rv, .inl rfl, e, c, d, z⟩
  · obtain ⟨its, rv, ⟨o, e, c, n, d⟩, z⟩ := I.tuple h
    exact ⟨its, "tuple", o, n, rv, .inr rfl, e, c, d, z⟩
theorem gone_of {h h1 : Heap} (k : ∀ b o, h.get? b = some o → h1.get? b = some o) : h.get? h1.objs.size = none := by
  cases e : h.get? h1.objs.size with
  | none => rfl
  | some o => exact absurd (Heap.lt_size (k _ _ e)) (Nat.lt_irrefl _)
section
variable {X : Cx}
theorem cr_sort : CallR X (.builtin "sorted") (rSort X.K) := by
  intro pins s σ H xs us Q I r h
  obtain ⟨a, vs, rfl, hs, hq⟩ := h
  obtain ⟨its, T, o, n, rv, hT, ho, hc, hd, hz⟩ := seq_at I hs
  rw [Vals.ref1 r]
  have hz' : its.length ≤ sizeLine := by rw [← rv.length]; exact hz
  have col : ∀ R : List Value → Shared → Prop, (∀ ws s1, (ws = its ∧ ∃ h', s1 = { s with heap := h' } ∧ ∀ b u, s.heap.get? b = some u → h'.get? b = some u) → R ws s1) → wpAny (model X.prog X.w) X.A.in1 (collect (.ref a)) R X.xe s := fun R hR =>
    wpAny_collect_seq a hT ho hc hd (fun h' k => hR _ _ ⟨by simp, h', rfl, k⟩) (by rw [List.size_toArray]; exact hz')
  rcases hq with ⟨ns, rfl, q⟩ | ⟨B, ps, hB, hps, q⟩
  · have hi := rv.ints
    refine sorted_run SrtO.swo_int col (fun ws s1 g => by rw [g.1]; exact hz') (fun ws s1 g h2 => by rw [g.1] at h2 ⊢; exact SrtO.ints_sortable hi h2) fun ws s1 out h' g h1 h2 keep at_ => ?_
    obtain ⟨rfl, h1', rfl, k1⟩ := g
    obtain ⟨c, hc'⟩ := at_
    obtain ⟨z1, z2, z3⟩ := SrtO.ints_out hi h1 h2
    have new : s.heap.get? h1'.objs.size = none := gone_of k1
    have hn := I.hok.gone new
    have e := isort_uniq z2 z3
    refine ⟨.ref h1'.objs.size, upd H h1'.objs.size (.lst ((isort ns).map V.int)), I.laidN (t' := s.toks) (fun b u e => keep b u (k1 b u e)) new hn ⟨?_, out, c, ?_, hc'⟩, rfl, q _ hn⟩
    · rw [List.length_map, (isort_perm ns).length_eq, ← List.length_map (f := V.int)]; exact hz
    · rw [← e]; exact vals_of_ints z1
  · have uq : ∀ x p p', PairAt X.K H x p → PairAt X.K H x p' → p = p' := fun x p p' ⟨t, e, h⟩ ⟨t', e', h'⟩ => by
      subst e
      cases e'
      have := I.tuple_inj h h'
      simp only [List.cons.injEq, V.int.injEq, and_true] at this
      exact Prod.ext this.1 this.2
    let k : V → Int × Int := fun x => @dite _ (∃ p, PairAt X.K H x p) (Classical.propDecidable _) (fun h => h.choose) fun _ => (0, 0)
    have hk : ∀ x p, PairAt X.K H x p → k x = p := fun x p h => by
      have hx : ∃ p, PairAt X.K H x p := ⟨p, h⟩
      show @dite _ (∃ p, PairAt X.K H x p) (Classical.propDecidable _) (fun h => h.choose) (fun _ => (0, 0)) = p
      rw [dif_pos hx]
      exact uq _ _ _ hx.choose_spec h
    have hb : ∀ x ∈ vs, B x (k x) := fun x hx => by
      obtain ⟨p, h⟩ := all2_left hps x hx
      rw [hk x p (hB _ _ h)]; exact h
    have hp : ∀ x ∈ vs, PairAt X.K H x (k x) := fun x hx => hB _ _ (hb x hx)
    have hm := all2_eq hps fun x p h => hk x p (hB _ _ h)
    obtain ⟨e1, e2⟩ := refs_back rv fun x m => by
      obtain ⟨t, e, _⟩ := hp x m
      exact ⟨t, e⟩
    have prs : ∀ v ∈ its, Srt.IsPair s.heap v (k (backV v)).1 (k (backV v)).2 := fun v hv => by
      obtain ⟨b, rfl⟩ := e2 v hv
      have hm : V.ref b ∈ vs := by rw [e1]; exact List.mem_map.mpr ⟨_, hv, rfl⟩
      obtain ⟨t, et, ht⟩ := hp _ hm
      cases et
      obtain ⟨ys, ry, ⟨o2, g1, g2, n2, g3⟩, _⟩ := I.tuple ht
      obtain ⟨u1, u2, rfl, r1, r2⟩ := vals2 ry
      obtain ⟨t1, rfl⟩ := r1
      obtain ⟨t2, rfl⟩ := r2
      exact ⟨b, o2, t1, t2, n2, rfl, g1, g2, g3⟩
    refine sorted_run (SrtO.swo_lex fun u => k (backV u)) col (fun ws s1 g => by rw [g.1]; exact hz') (fun ws s1 g h2 => ?_) fun ws s1 out h' g h1 h2 keep at_ => ?_
    · obtain ⟨rfl, h1', rfl, k1⟩ := g
      refine SrtO.pairs_sortableO (by omega) (fun v hv => (prs v hv).keeps fun b u e _ => Heap.get?_push_of_some _ (k1 b u e)) fun o2 e => ?_
      have e' : some o2 = some _ := e.symm.trans (Heap.get?_push_size h1' rfl)
      cases e'
      exact fun c => absurd (Value.type.inj c) (by decide)
    · obtain ⟨rfl, h1', rfl, k1⟩ := g
      obtain ⟨c, hc'⟩ := at_
      have new : s.heap.get? h1'.objs.size = none := gone_of k1
      have hn := I.hok.gone new
      have h3 : ∀ u ∈ out, ∃ a, u = Value.ref a := fun u hu => e2 u (h2.perm.mem_iff.mp hu)
      have pm : (out.map backV).Perm vs := by rw [e1]; exact h2.perm.map backV
      refine ⟨.ref h1'.objs.size, upd H h1'.objs.size (.lst (out.map backV)), I.laidN (t' := s.toks) (fun b u e => keep b u (k1 b u e)) new hn ⟨?_, out, c, vals_back h3, hc'⟩, rfl, q _ _ ?_ hn⟩
      · rw [pm.length_eq]; exact hz
      · have hall := all2_map (R := B) (f := k) (l := out.map backV) fun x hx => hb x (pm.mem_iff.mp hx)
        rw [psort_uniq (ps := ps) (qs := (out.map backV).map k) (by rw [← hm]; exact pm.map k) ?_] at hall
        · exact hall
        rw [List.map_map]
        refine List.pairwise_map.mpr (h1.imp fun {x y} hb => ?_)
        have := SrtO.lexB_no.mp hb
        rw [lexLe_iff]
        show _ ∨ _
        simp only [Function.comp]
        omega
/-- sorted, by data -/
theorem x_sorted : CallX X (.builtin "sorted") gSorted := by
  refine ⟨_, cr_sort, fun S H xs ds z Q sh r eg q => ?_⟩
  have fin : ∀ (a : Addr) (vs : List V) (es : List D), (SqL X.K H a vs ∨ SqT X.K H a vs) → RpL X.K S vs es → sortD es = some z → rSort X.K [.ref a] H Q := fun a vs es hs rv e => by
    refine ⟨a, vs, rfl, hs, ?_⟩
    unfold sortD at e
    split at e
    · rename_i ns hns
      cases e
      refine .inl ⟨ns, intsOf_vs rv hns, fun p hp => q _ _ _ (Grow.add sh hp) (.lst Sx.add_at (RpL.ints _))⟩
    · cases hps : pairsOfD es with
      | none => rw [hps] at e; cases e
      | some ps =>
        rw [hps] at e
        cases e
        have pr : ∀ {vs : List V} {es : List D} {ps : List (Int × Int)}, RpL X.K S vs es → pairsOfD es = some ps → All2 (PairAt X.K S.hp) vs ps := by
          intro vs es
          induction es generalizing vs with
          | nil => intro ps r e; cases r; cases e; exact .nil
          | cons d es ih =>
            intro ps r e
            unfold pairsOfD at e
            cases h1 : pairOf d with
            | none => rw [h1] at e; cases e
            | some p =>
              cases h2 : pairsOfD es with
              | none => rw [h1, h2] at e; cases e
              | some qs =>
                rw [h1, h2] at e
                cases e
                cases r with
                | cons rx rr =>
                  refine .cons ?_ (ih rr h2)
                  unfold pairOf at h1
                  split at h1
                  · cases h1
                    cases rx with
                    | tup hx rl =>
                      cases rl with
                      | cons r1 rl =>
                        cases rl with
                        | cons r2 rl =>
                          cases rl
                          cases r1
                          cases r2
                          exact ⟨_, rfl, hx⟩
                  · cases h1
        have hps' := pr rv hps
        refine .inr ⟨PairAt X.K S.hp, ps, fun x p ⟨t, e, h⟩ => ⟨t, e, sh.sqT h⟩, hps', fun ys p hys hp => q _ ((S.add p (.lst ys))) _ (Grow.add sh hp) (.lst Sx.add_at ?_)⟩
        have le : Le S (S.add p (.lst ys)) := (Grow.add sh hp).le
        have : ∀ {ys : List V} {ps : List (Int × Int)}, All2 (PairAt X.K S.hp) ys ps → RpL X.K S ys (ps.map pairD) := by
          intro ys ps h
          induction h with
          | nil => exact .nil
          | cons h _ ih =>
            obtain ⟨t, rfl, ht⟩ := h
            exact .cons (.tup ht (.cons (.int _) (.cons (.int _) .nil))) ih
        exact (this hys).mono le
  unfold gSorted at eg
  split at eg
  · obtain ⟨v, rfl, rv⟩ := one_of r
    cases rv with
    | lst h r => exact fin _ _ _ (.inl (.inl (.inl (sh _ _ h)))) r eg
  · obtain ⟨v, rfl, rv⟩ := one_of r
    cases rv with
    | rdl h r => exact fin _ _ _ (.inl (sh.sqL h)) r eg
  · obtain ⟨v, rfl, rv⟩ := one_of r
    cases rv with
    | tup h r => exact fin _ _ _ (.inr (sh.sqT h)) r eg
  · cases eg
end
end WS
namespace WS
open PySem PySem.Spec PyProof.Rows L2

theorem usort_lt (ns : List Int) : (usort ns).Pairwise (· < ·) := by
  have h1 : (usort ns).Pairwise (· ≤ ·) := isort_sorted _
  have h2 : (usort ns).Nodup := (isort_perm _).nodup_iff.mpr (nodup_dedI _)
  exact h1.imp₂ (S := (· ≠ ·)) (fun a b x y => Int.lt_iff_le_and_ne.mpr ⟨x, y⟩) h2
theorem usort_uniq {ns ms : List Int} (h : ms.Pairwise (· < ·)) (m : ∀ k, k ∈ ms ↔ k ∈ ns) : ms = usort ns := by
  refine List.Perm.eq_of_pairwise (le := (· < ·)) (fun a b _ _ h1 h2 => by omega) h (usort_lt ns) ?_
  refine (List.perm_ext_iff_of_nodup ?_ ?_).mpr fun k => by rw [m k, mem_usort]
  · exact h.imp fun x => Int.ne_of_lt x
  · exact (usort_lt ns).imp fun x => Int.ne_of_lt x
theorem Grow.idle {S : Sx} {H : Hp} {p : Addr} {o : HO} (h : Sub S.hp H) (n : H p = none) : Grow S H S (upd H p o) :=
  ⟨Sub.refl _, rfl, h.trans (Sub.new n), Sub.new n, fun _ _ _ e => e⟩
def gSortSet : D → Option D
  | .lst ds => (intsOf ds).bind fun ns => if ns.length ≤ 4000 then some (.lst ((usort ns).map .int)) else none
  | .rdl ds => (intsOf ds).bind fun ns => if ns.length ≤ 4000 then some (.lst ((usort ns).map .int)) else none
  | .tup ds => (intsOf ds).bind fun ns => if ns.length ≤ 4000 then some (.lst ((usort ns).map .int)) else none
  | _ => none
def rSetI (K : PySem.W.Frag) (w : World) : List V → Hp → VK → Prop := fun xs H Q => ∃ (a : Addr) (ns : List Int), xs = [.ref a] ∧ (SqL K H a (ns.map V.int) ∨ SqT K H a (ns.map V.int)) ∧ ns.length ≤ 4000 ∧
  ∀ p c, H p = none → c ≤ ns.length → Q (.ref p) (upd H p (SetO w p (fun j => decide (j ∈ ns)) c))
def rSortS (w : World) : List V → Hp → VK → Prop := fun xs H Q => ∃ (a : Addr) (S : Int → Bool) (n : Nat), xs = [.ref a] ∧ H a = some (SetO w a S n) ∧ n ≤ 4000 ∧
  ∀ (ns : List Int) (p : Addr), ns.Pairwise (· < ·) → (∀ k, k ∈ ns ↔ S k = true) → H p = none → Q (.ref p) (upd H p (.lst (ns.map V.int)))
section
variable {X : Cx}
theorem cr_setI (hc : X.calm = true) : CallR X (.type "set") (rSetI X.K X.w) := by
  intro pins s σ H xs us Q I r h
  obtain ⟨a, ns, rfl, hs, hl, q⟩ := h
  rw [Vals.ref1 r]
  have hb : ns.length + 1 < scanBound := by unfold scanBound; omega
  have fin : ∀ (h' : Heap) (tk c : Nat), SetR X.w h' s.heap.objs.size (fun j => decide (j ∈ ns)) c → c ≤ ns.length → (∀ b u, s.heap.get? b = some u → h'.get? b = some u) → EP X pins σ Q (.ref s.heap.objs.size) { s with heap := h', toks := tk } := fun h' tk c R hc k => by
    have new := I.hok.fresh (Nat.le_refl s.heap.objs.size)
    exact ⟨.ref s.heap.objs.size, _, I.laid (t' := tk) k (Nat.le_refl _) (setO_new R), rfl, q _ c new hc⟩
  rcases hs with hs | hs
  · obtain ⟨its, rv, ⟨o, n, e, c, _, d⟩, _⟩ := I.list hs
    exact call_set_ls (I.ok.hd hc) e c d rv.ints hb fin
  · obtain ⟨its, rv, ht, _⟩ := I.tuple hs
    exact call_set_tupI ns (I.ok.hd hc) ht rv.ints hb fin
theorem cr_sortS (hc : X.calm = true) : CallR X (.builtin "sorted") (rSortS X.w) := by
  intro pins s σ H xs us Q I r h
  obtain ⟨a, S, n, rfl, ha, hn, q⟩ := h
  rw [Vals.ref1 r]
  obtain ⟨o, es, ep, t, ho, hex, hd, good, nd, mem, hb, hf, hsz, hr, hl⟩ := setO_get I ha
  have len : ∀ ws : List Value, ws.Perm (es.toList.map (·.2)) → ws.length = n := fun ws pm => by
    rw [pm.length_eq, List.length_map, Array.length_toList]; exact hsz
  have hints : ∀ ws : List Value, ws.Perm (es.toList.map (·.2)) → IntsAre ws (ws.map SrtO.iv) := fun ws pm => SrtO.ints_iv fun v hv => by
    obtain ⟨e, he, rfl⟩ := List.mem_map.mp (pm.mem_iff.mp hv)
    obtain ⟨k, tk, h1, _⟩ := good e he
    exact ⟨k, tk, h1⟩
  refine sorted_run SrtO.swo_int (G := fun ws s1 => (∀ b u, s.heap.get? b = some u → s1.heap.get? b = some u) ∧ s.heap.objs.size ≤ s1.heap.objs.size ∧ s1.gens = s.gens ∧ s1.os = s.os ∧ ws.Perm (es.toList.map (·.2)))
    (fun R hR => collect_set (A := X.A.in1) (I.ok.hd hc) ⟨o, ho, hex.1, hd⟩ hf hb hr hl fun s1 ws k1 hz g1 o1 pm => hR _ _ ⟨k1, hz, g1, o1, pm⟩)
    (fun ws s1 g => by rw [len ws g.2.2.2.2, sizeLine_eq]; omega) (fun ws s1 g h2 => SrtO.ints_sortable (hints ws g.2.2.2.2) h2) fun ws s1 out h' g h1 h2 keep at_ => ?_
  obtain ⟨k1, hz, g1, o1, pm⟩ := g
  obtain ⟨c, hc'⟩ := at_
  obtain ⟨z1, z2, z3⟩ := SrtO.ints_out (hints ws pm) h1 h2
  have hn' := I.hok.fresh hz
  have J : Inv X pins σ (upd H s1.heap.objs.size (.lst ((out.map SrtO.iv).map V.int))) { s with heap := h', gens := s1.gens, drawn := s1.drawn, toks := s1.toks } :=
    I.call (ch := []) (Un.laid (fun b u e => keep b u (k1 b u e)) hz hn') (I.hok.laid (fun b u e => keep b u (k1 b u e)) hz ⟨by rw [List.length_map, z2.length_eq, List.length_map, len ws pm, sizeLine_eq]; omega, out, c, vals_of_ints z1, hc'⟩) (by rw [g1]; exact I.bare) (fun _ z => nomatch z)
  have e : ({ s1 with heap := h' } : Shared) = { s with heap := h', gens := s1.gens, drawn := s1.drawn, toks := s1.toks } := by
    cases s1
    cases s
    cases o1
    rfl
  rw [e]
  have keys : ((es.toList.map (·.2)).map SrtO.iv) = es.toList.map keyOf := by
    rw [List.map_map]
    refine List.map_congr_left fun e he => ?_
    obtain ⟨k, tk, h1, _⟩ := good e he
    show SrtO.iv e.2 = keyOf e
    unfold keyOf
    rw [h1]
    rfl
  have pk : (out.map SrtO.iv).Perm (es.toList.map keyOf) := by
    rw [← keys]
    exact z2.trans (pm.map SrtO.iv)
  refine ⟨.ref s1.heap.objs.size, _, J, rfl, q _ _ ?_ (fun k => by rw [pk.mem_iff, ← mem k]) hn'⟩
  exact z3.imp₂ (S := (· ≠ ·)) (fun a b x y => Int.lt_iff_le_and_ne.mpr ⟨x, y⟩) (pk.nodup_iff.mpr nd)
variable {e : Expr} {f : E} {p p2 pos pos2 : Pos}
/-- sorted(set(e)) -/
theorem d_sortSet (hc : X.calm = true) (hg : Gl X "sorted") (hm : X.mg "sorted" = none) (hg2 : Gl X "set") (hm2 : X.mg "set" = none) (he : PE X e (TEv X.K f))
    (s1 : starEach [e] X.env = (false, eval e X.env) :: starEach [] X.env := by kernel_rfl!) (s2 : starEach [Expr.Call (.Name "set" p2) [e] [] pos2] X.env = (false, eval (Expr.Call (.Name "set" p2) [e] [] pos2) X.env) :: starEach [] X.env := by kernel_rfl!)
    (l1 : (backTo pos2 (starEach [] X.env)).any (·.1) = false := by kernel_rfl!) (l2 : (backTo pos (starEach [] X.env)).any (·.1) = false := by kernel_rfl!) :
    PE X (.Call (.Name "sorted" p) [.Call (.Name "set" p2) [e] [] pos2] [] pos) (TEv X.K (eUn gSortSet f)) := by
  refine (pe_callB (cr_sortS hc) hg hm (by decide +kernel) (pa_cons (pe_callTy (cr_setI hc) hg2 hm2 (by decide +kernel) (pa_cons he pa_nil s1) (by decide) (by decide) s1 l1) pa_nil s2) (by decide) (by decide) s2 l2).imp fun σ H Q h => ?_
  obtain ⟨S, F, ρ, dk, d, ρ', dk', R, e, q⟩ := h
  unfold eUn at e
  cases ea : f ρ dk with
  | none => rw [ea] at e; cases e
  | some xa =>
    obtain ⟨da, ρ1, k1⟩ := xa
    rw [ea] at e
    simp only [Option.bind_some] at e
    cases eg : gSortSet da with
    | none => rw [eg] at e; cases e
    | some z =>
      rw [eg] at e
      simp only [Option.map_some] at e
      cases e
      refine ⟨S, F, ρ, dk, da, _, _, R, ea, fun v H1 S1 l1 R1 rv => ?_⟩
      have fin : ∀ (a : Addr) (vs : List V) (es : List D), v = .ref a → (SqL X.K H1 a vs ∨ SqT X.K H1 a vs) → RpL X.K S1 vs es → ((intsOf es).bind fun ns => if ns.length ≤ 4000 then some (D.lst ((usort ns).map D.int)) else none) = some d →
          rSetI X.K X.w [v] H1 fun x H' => rSortS X.w [x] H' Q := fun a vs es ev hs rl e => by
        cases hi : intsOf es with
        | none => rw [hi] at e; cases e
        | some ns =>
          rw [hi] at e
          simp only [Option.bind_some] at e
          split at e
          case isFalse => cases e
          rename_i hl
          cases e
          have ev2 := intsOf_vs rl hi
          subst ev2
          refine ⟨a, ns, by rw [ev], hs, hl, fun p c hp hc' => ⟨p, _, c, rfl, upd_same, by omega, fun ms p' h1 h2 hp' => ?_⟩⟩
          have em : ms = usort ns := usort_uniq h1 fun k => by rw [h2 k]; simp
          subst em
          have R2 := R1.grow (Grow.idle R1.sh hp (o := SetO X.w p (fun j => decide (j ∈ ns)) c))
          have gr := Grow.add R2.sh hp' (o := .lst ((usort ns).map V.int))
          exact q _ _ _ (l1.trans gr.le) (R2.grow gr) (.lst Sx.add_at (RpL.ints _))
      cases da <;> first | (cases eg; done) | skip
      case lst ds => cases rv with | lst h r => exact fin _ _ _ rfl (.inl (.inl (.inl (R1.sh _ _ h)))) r eg
      case rdl ds => cases rv with | rdl h r => exact fin _ _ _ rfl (.inl (R1.sh.sqL h)) r eg
      case tup ds => cases rv with | tup h r => exact fin _ _ _ rfl (.inr (R1.sh.sqT h)) r eg
end
end WS
namespace WS
open PySem PySem.Spec PyProof.Rows L2

def intKeys : List Key → Option (List Int)
  | [] => some []
  | .inl i :: r => (intKeys r).map (i :: ·)
  | _ => none
theorem intKeys_map : ∀ {ks : List Key} {is : List Int}, intKeys ks = some is → ks = is.map Sum.inl
  | [], is, h => by cases h; rfl
  | .inl i :: r, is, h => by
    unfold intKeys at h
    cases q : intKeys r with
    | none => rw [q] at h; cases h
    | some js =>
      rw [q] at h
      cases h
      rw [intKeys_map q]; rfl
  | .inr x :: r, is, h => by cases h
/-- sorted(d), d an own dict -/
def eOSortK (i : Nat) : E := fun ρ k => match ρ[i]? with
  | some (.own (.dct ks _)) => (intKeys ks).bind fun is => if is.length < 64 then some (.lst ((isort is).map .int), ρ, k) else none
  | _ => none
section
variable {X : Cx} {i : Nat} {x : Str} {p p1 pos : Pos}
theorem d_oSortK (hc : X.calm = true) (hg : Gl X "sorted") (hm : X.mg "sorted" = none) (hN : X.N[i]? = some x) (hv : Vis X.env.scope x) (hd : (x == ("__debug__" : Str)) = false := by decide) (hcd : (x == ("__classdict__" : Str)) = false := by decide)
    (s1 : starEach [Expr.Name x p1] X.env = (false, eval (Expr.Name x p1) X.env) :: starEach [] X.env := by kernel_rfl!) (l1 : (backTo pos (starEach [] X.env)).any (·.1) = false := by kernel_rfl!) :
    PE X (.Call (.Name "sorted" p) [.Name x p1] [] pos) (TEv X.K (eOSortK i)) :=
  (pe_callB (call_sortedDI hc) hg hm (by decide +kernel) (pa_cons (pe_var hN hv hd hcd) pa_nil s1) (by decide) (by decide) s1 l1).imp fun σ H Q h => by
    obtain ⟨S, F, ρ, dk, d, ρ', dk', R, e, q⟩ := h
    unfold eOSortK at e
    split at e
    · rename_i ks ds ho
      cases hi : intKeys ks with
      | none => rw [hi] at e; cases e
      | some is =>
        rw [hi] at e
        simp only [Option.bind_some] at e
        split at e
        case isFalse => cases e
        rename_i hl
        cases e
        obtain ⟨a, kvs, h1, h2, h3, _⟩ := own_dct R ho
        refine ⟨_, h1, a, kvs, is, rfl, .inl h2, by rw [h3]; exact intKeys_map hi, hl, fun ys p hp1 hp2 hp => ?_⟩
        have gr := Grow.add R.sh hp (o := .lst (ys.map V.int))
        have ey := isort_uniq hp1 hp2
        rw [ey] at gr ⊢
        exact q _ _ _ gr.le (R.grow gr) (.lst Sx.add_at (RpL.ints _))
    · cases e
end
end WS
namespace WS
open PySem PySem.Spec PyProof.Rows L2
section
variable {i : Nat} {fk fv : E} {ρ : List Sl} {k : Dk} {neg : Bool}
theorem ap_ownD0 : sOwnD0 i ρ k = some (.nx, ρ.set i (.own (.dct [] [])), k) := nrfl rfl
theorem kd_i {j : Int} : keyD (.int j) = some (.inl j) := nrfl rfl
theorem kd_s {x : Str} : keyD (.str x) = some (.inr x) := nrfl rfl
theorem ap_put : sPut i fk fv ρ k = (fv ρ k).bnd fun v => (ownD v.2.1[i]?).bnd fun _ => (fk v.2.1 v.2.2).bnd fun y => (ownD y.2.1[i]?).bnd fun kd => (keyD y.1).bnd fun z =>
    if kd.1.length < sizeLine then some (.nx, y.2.1.set i (.own (.dct (putD kd.1 kd.2 z v.1).1 (putD kd.1 kd.2 z v.1).2)), y.2.2) else none := by
  show (fv ρ k).bind _ = (fv ρ k).bind _
  congr
  funext v
  obtain ⟨vd, ρ1, k1⟩ := v
  unfold ownD
  dsimp only
  cases h1 : ρ1[i]? with
  | none => rfl
  | some s =>
    cases s with
    | no => rfl
    | val c => rfl
    | own c =>
      cases c <;> try rfl
      show (fk ρ1 k1).bind _ = (fk ρ1 k1).bind _
      congr
      funext y
      obtain ⟨yd, ρ2, k2⟩ := y
      dsimp only
      cases h2 : ρ2[i]? with
      | none => rfl
      | some s =>
        cases s with
        | no => rfl
        | val c => rfl
        | own c => cases c <;> rfl
theorem ap_oget : eOGet i fk ρ k = (ownD ρ[i]?).bnd fun _ => (fk ρ k).bnd fun y => (ownD y.2.1[i]?).bnd fun kd => (keyD y.1).bnd fun z => (lkD kd.1 kd.2 z).mpd fun d => (d, y.2.1, y.2.2) := by
  unfold eOGet ownD
  cases h1 : ρ[i]? with
  | none => rfl
  | some s =>
    cases s with
    | no => rfl
    | val c => rfl
    | own c =>
      cases c <;> try rfl
      show (fk ρ k).bind _ = (fk ρ k).bind _
      congr
      funext y
      obtain ⟨yd, ρ2, k2⟩ := y
      dsimp only
      cases h2 : ρ2[i]? with
      | none => rfl
      | some s =>
        cases s with
        | no => rfl
        | val c => rfl
        | own c => cases c <;> rfl
theorem ap_oin : eOIn neg fk i ρ k = (fk ρ k).bnd fun y => (ownD y.2.1[i]?).bnd fun kd => (keyD y.1).mpd fun z => (.bl (neg != (lkD kd.1 kd.2 z).isSome), y.2.1, y.2.2) := by
  show (fk ρ k).bind _ = (fk ρ k).bind _
  congr
  funext y
  obtain ⟨yd, ρ2, k2⟩ := y
  unfold ownD
  dsimp only
  cases h2 : ρ2[i]? with
  | none => rfl
  | some s =>
    cases s with
    | no => rfl
    | val c => rfl
    | own c => cases c <;> rfl
theorem ap_osort : eOSortK i ρ k = (ownD ρ[i]?).bnd fun kd => (intKeys kd.1).bnd fun is => if is.length < 64 then some (.lst ((isort is).map .int), ρ, k) else none := by
  unfold eOSortK ownD
  cases h2 : ρ[i]? with
  | none => rfl
  | some s =>
    cases s with
    | no => rfl
    | val c => rfl
    | own c => cases c <;> rfl
end
section
variable {vs : List Nat} {g : Tg} {tt elt : E} {ρ : List Sl}
/-- a comprehension with draws, place by place -/
theorem comp_runN (I : Nat → Dk → Prop) (R : D → D → Prop) : ∀ (ds : List D) (n : Nat) (k : Dk), I n k → (∀ i d, ds[i]? = some d → ∀ k, I (n + i) k → ∃ ρ1 ρ2 ρ3 e k', g d ρ = some ρ1 ∧ tt ρ1 k = some (.bl true, ρ2, k) ∧ elt ρ2 k = some (e, ρ3, k') ∧ wipeS ρ3 vs = ρ ∧ R d e ∧ I (n + i + 1) k') →
    ∃ es k', eCompGo vs g tt elt ds ρ k = some (es, ρ, k') ∧ All2 R ds es ∧ I (n + ds.length) k'
  | [], n, k, h, _ => ⟨[], k, rfl, .nil, h⟩
  | d :: ds, n, k, h, H => by
    obtain ⟨ρ1, ρ2, ρ3, e, k1, h1, h2, h3, h4, h5, h6⟩ := H 0 d rfl k h
    obtain ⟨es, k', q1, q2, q3⟩ := comp_runN I R ds (n + 1) k1 h6 fun i d' hd k hI => by
      have := H (i + 1) d' (by simpa using hd) k (by rw [show n + (i + 1) = n + 1 + i by omega]; exact hI)
      rw [show n + (i + 1) = n + 1 + i by omega] at this
      exact this
    refine ⟨e :: es, k', ?_, .cons h5 q2, by rw [List.length_cons, show n + (ds.length + 1) = n + 1 + ds.length by omega]; exact q3⟩
    unfold eCompGo
    rw [h1, Option.bind_some, h2, Option.bind_some]
    show ((elt ρ2 k).bind fun y => (eCompGo vs g tt elt ds (wipeS y.2.1 vs) y.2.2).map fun z => (y.1 :: z.1, z.2)) = _
    rw [h3, Option.bind_some]
    show (eCompGo vs g tt elt ds (wipeS ρ3 vs) k1).map (fun z => (e :: z.1, z.2)) = _
    rw [h4, q1]
    rfl
end
end WS
local macro_rules | `(tactic| simp! [$ts,*]) => `(tactic| simp -implicitDefEqProofs only [WS.ap_run, WS.ap_C, WS.ap_Op, WS.ap_Un, WS.ap_nil, WS.ap_cons, WS.ap_App, WS.ap_And, WS.ap_Or, WS.ap_Not, WS.ap_Not', WS.ap_NotB, WS.ap_If, WS.ap_sNil, WS.ap_sSeq, WS.ap_sRet, WS.ap_sDrop, WS.ap_sIf, WS.ap_sAsg, WS.ap_gSet, WS.ap_call, WS.ap_chain, WS.ap_pair, WS.wp_nil, WS.wp_cons, WS.ap_comp, WS.ap_for, WS.ap_iApp, WS.ap_iSeq, WS.sq_lst, WS.sq_tup, WS.it0, WS.it1, WS.it2, WS.it3, WS.il0, WS.il1, WS.il2, WS.il3, WS.fo_nx, WS.fo_ct, WS.fo_bk, WS.fo_rt, WS.bm_t, WS.bm_f, WS.om_nx, WS.om_rt, WS.om_bk, WS.om_ct, WS.fin_nx, WS.fin_rt, WS.bnd_some, WS.bnd_none, WS.mpd_some, WS.mpd_none, Option.bind_some, Option.map_some, Option.bind_none, Option.map_none, List.length_cons, List.length_nil, Nat.zero_add, Nat.reduceAdd, reduceIte, Nat.reduceEqDiff, Nat.reduceLeDiff, WS.osm_int, WS.ap_oNone, WS.ap_oSome, WS.ap_Sl, WS.ap_app, WS.ap_ext, WS.ap_ownL, WS.ow_l, WS.ow_d, WS.ls_l, WS.sl_to1, WS.sl_from1, WS.r_rev, WS.r_lstS, WS.r_tupS, WS.isi_non_int, WS.isi_non_bool, WS.isi_non_str, WS.isi_non_tuple, WS.isi_non_list, WS.isi_non_dict, WS.isi_bl_int, WS.isi_bl_bool, WS.isi_bl_str, WS.isi_bl_tuple, WS.isi_bl_list, WS.isi_bl_dict, WS.isi_int_int, WS.isi_int_bool, WS.isi_int_str, WS.isi_int_tuple, WS.isi_int_list, WS.isi_int_dict, WS.isi_str_int, WS.isi_str_bool, WS.isi_str_str, WS.isi_str_tuple, WS.isi_str_list, WS.isi_str_dict, WS.isi_tup_int, WS.isi_tup_bool, WS.isi_tup_str, WS.isi_tup_tuple, WS.isi_tup_list, WS.isi_tup_dict, WS.isi_lst_int, WS.isi_lst_bool, WS.isi_lst_str, WS.isi_lst_tuple, WS.isi_lst_list, WS.isi_lst_dict, WS.isi_dct_int, WS.isi_dct_bool, WS.isi_dct_str, WS.isi_dct_tuple, WS.isi_dct_list, WS.isi_dct_dict, WS.r_lt, WS.r_le, WS.r_gt, WS.r_ge, WS.r_add, WS.r_addIB, WS.r_addBI, WS.r_sub, WS.r_subIB, WS.r_subBI, WS.r_neg, WS.r_eqI, WS.r_neI, WS.r_eqB, WS.r_neB, WS.r_eqBI, WS.r_eqS, WS.r_neS, WS.r_eqT0, WS.r_neT0, WS.r_eqL0, WS.r_neL0, WS.r_isB, WS.r_isnB, WS.r_isN, WS.r_isnN, WS.r_lenT, WS.r_lenL, WS.r_min, WS.r_intI, WS.r_intB, WS.r_tupL, WS.r_lstT, WS.r_lstL, Bool.not_true, Bool.not_false, Bool.not_not, decide_true, decide_false, WS.bm_b, decide_eq_true_eq, Bool.not_eq_true', decide_eq_false_iff_not, Bool.false_eq_true, if_true, if_false, WS.ap_ownD0, WS.kd_i, WS.kd_s, WS.ap_put, WS.ap_oget, WS.ap_oin, WS.ap_osort, Int.cast_ofNat_Int, eq_self, Int.reduceEq, Int.reduceLT, Int.reduceLE, not_true_eq_false, not_false_eq_true, Bool.true_and, Bool.false_and, WS.st0_c, WS.st0_n, WS.st0_0, WS.vv_0, WS.vo_0, WS.ix_0, WS.sx_0, WS.vv_1, WS.vo_1, WS.ix_1, WS.sx_1, WS.vv_2, WS.vo_2, WS.ix_2, WS.sx_2, WS.vv_3, WS.vo_3, WS.ix_3, WS.sx_3, WS.vv_4, WS.vo_4, WS.ix_4, WS.sx_4, WS.vv_5, WS.vo_5, WS.ix_5, WS.sx_5, WS.vv_6, WS.vo_6, WS.ix_6, WS.sx_6, WS.vv_7, WS.vo_7, WS.ix_7, WS.sx_7, WS.vv_8, WS.vo_8, WS.ix_8, WS.sx_8, WS.vv_9, WS.vo_9, WS.ix_9, WS.sx_9, WS.vv_10, WS.vo_10, WS.ix_10, WS.sx_10, WS.vv_11, WS.vo_11, WS.ix_11, WS.sx_11, WS.vv_12, WS.vo_12, WS.ix_12, WS.sx_12, WS.vv_13, WS.vo_13, WS.ix_13, WS.sx_13, WS.vv_14, WS.vo_14, WS.ix_14, WS.sx_14, WS.vv_15, WS.vo_15, WS.ix_15, WS.sx_15, WS.vv_16, WS.vo_16, WS.ix_16, WS.sx_16, WS.vv_17, WS.vo_17, WS.ix_17, WS.sx_17, WS.vv_18, WS.vo_18, WS.ix_18, WS.sx_18, WS.vv_19, WS.vo_19, WS.ix_19, WS.sx_19, WS.vv_20, WS.vo_20, WS.ix_20, WS.sx_20, WS.vv_21, WS.vo_21, WS.ix_21, WS.sx_21, WS.vv_22, WS.vo_22, WS.ix_22, WS.sx_22, WS.vv_23, WS.vo_23, WS.ix_23, WS.sx_23, WS.vv_24, WS.vo_24, WS.ix_24, WS.sx_24, $ts,*])
namespace WS
open PySem PySem.Spec PyProof.Rows L2

/-! ## sources of any kind: lists, tuples, texts -/
inductive SK where
  | l (a : Addr) | t (a : Addr) | s (x : Str)
def SK.v : SK → V
  | .l a => .ref a
  | .t a => .ref a
  | .s x => .str x
def signsV (x : Str) : List V := x.cps.toList.map fun c => .str ⟨#[c]⟩
def SK.Has (K : PySem.W.Frag) (H : Hp) (xs : List V) : SK → Prop
  | .l a => SqL K H a xs
  | .t a => SqT K H a xs
  | .s x => xs = signsV x
def SK.fp (it : Addr) : SK → List Addr
  | .l a => [it, a]
  | .t a => [it, a]
  | .s _ => [it]
def SK.Iter (h : Heap) (it : Addr) (i : Nat) : SK → Prop
  | .l a => h.IsListIter it a i
  | .t a => h.IsTupleIter it a i
  | .s x => ∃ t, h.IsStrIter it (strIterType x) x t i
def SK.lt (h : Heap) : SK → Prop
  | .l a => a < h.objs.size
  | .t a => a < h.objs.size
  | .s _ => True
theorem SK.Iter.there {k : SK} {h : Heap} {it : Addr} {i : Nat} (x : k.Iter h it i) : ∃ o, h.get? it = some o ∧ ∀ v, o.data ≠ .cell v := by
  cases k with
  | l a => obtain ⟨o, e, _, d⟩ := x; exact ⟨o, e, fun v q => by rw [d] at q; cases q⟩
  | t a => obtain ⟨o, e, _, d⟩ := x; exact ⟨o, e, fun v q => by rw [d] at q; cases q⟩
  | s y => obtain ⟨t, o, e, _, d⟩ := x; exact ⟨o, e, fun v q => by rw [d] at q; cases q⟩
theorem SK.Iter.at {k : SK} {h h' : Heap} {it : Addr} {i : Nat} (x : k.Iter h it i) (f : ∀ o, h.get? it = some o → h'.get? it = some o) : k.Iter h' it i := by
  cases k with
  | l a => obtain ⟨o, e, r⟩ := x; exact ⟨o, f o e, r⟩
  | t a => obtain ⟨o, e, r⟩ := x; exact ⟨o, f o e, r⟩
  | s y => obtain ⟨t, o, e, r⟩ := x; exact ⟨t, o, f o e, r⟩
theorem SK.mem_fp {k : SK} {it : Addr} : it ∈ k.fp it := by cases k <;> simp [SK.fp]
section
variable {X : Cx} {pins : List (Addr × Obj)} {σ : L2.St} {H : Hp} {s : Shared}
/-- what such an iterator draws -/
theorem sk_draws (I : Inv X pins σ H s) (hc : X.calm = true) {k : SK} {it : Addr} {i : Nat} {xs : List V} (hx : k.Has X.K H xs) (hi : k.Iter s.heap it i) (hn : ∀ b ∈ k.fp it, b = it ∨ b ≠ it) (hne : ∀ a, (k = .l a ∨ k = .t a) → a ≠ it) :
    ∃ (P : Nat → Value → Prop) (St : Nat → Heap → Prop), Draws X.prog X.w X.A.in1 it (k.fp it) xs.length P St ∧ St i s.heap ∧ (∀ j h, St j h → k.Iter h it j) ∧ ∀ j u, P j u → ∃ x, xs[j]? = some x ∧ RelV x u := by
  have hh : X.A.in1.handled = none := I.ok.hd hc
  cases k with
  | l a =>
    obtain ⟨its, rv, p, _⟩ := I.list (show SqL X.K H a xs from hx)
    have e : its.toArray.size = xs.length := by rw [List.size_toArray, rv.length]
    refine ⟨_, _, e ▸ Draws.list hh it a (hne a (.inl rfl)) its.toArray, ⟨hi, p.isList⟩, fun j h st => st.1, fun j u hu => ?_⟩
    have hu' : its[j]? = some u := by simpa using hu
    have hj : j < xs.length := by rw [rv.length]; exact (List.getElem?_eq_some_iff.mp hu').1
    obtain ⟨u2, h2, r2⟩ := rv.get (List.getElem?_eq_getElem hj)
    rw [hu'] at h2; cases h2
    exact ⟨_, List.getElem?_eq_getElem hj, r2⟩
  | t a =>
    obtain ⟨its, rv, p, _⟩ := I.tuple (show SqT X.K H a xs from hx)
    have e : its.toArray.size = xs.length := by rw [List.size_toArray, rv.length]
    refine ⟨_, _, e ▸ Draws.tuple hh it a (hne a (.inr rfl)) its.toArray, ⟨hi, p⟩, fun j h st => st.1, fun j u hu => ?_⟩
    have hu' : its[j]? = some u := by simpa using hu
    have hj : j < xs.length := by rw [rv.length]; exact (List.getElem?_eq_some_iff.mp hu').1
    obtain ⟨u2, h2, r2⟩ := rv.get (List.getElem?_eq_getElem hj)
    rw [hu'] at h2; cases h2
    exact ⟨_, List.getElem?_eq_getElem hj, r2⟩
  | s y =>
    obtain ⟨t, hi⟩ := hi
    cases (show xs = signsV y from hx)
    have e : y.cps.size = (signsV y).length := by simp [signsV]
    refine ⟨_, _, e ▸ Draws.text hh it y t, hi, fun j h st => ⟨t, st⟩, fun j u hu => ?_⟩
    obtain ⟨c, tk, hcx, rfl⟩ := hu
    refine ⟨.str ⟨#[c]⟩, ?_, ⟨tk, rfl⟩⟩
    unfold signsV
    rw [List.getElem?_map, Array.getElem?_toList, hcx]; rfl
/-- .. at its end, or beyond -/
theorem sk_ends (I : Inv X pins σ H s) (hc : X.calm = true) {k : SK} {it : Addr} {i : Nat} {xs : List V} (hx : k.Has X.K H xs) (hi : k.Iter s.heap it i) (hne : ∀ a, (k = .l a ∨ k = .t a) → a ≠ it) :
    ∃ (n : Nat) (P : Nat → Value → Prop) (St : Nat → Heap → Prop), Draws X.prog X.w X.A.in1 it (k.fp it) n P St ∧ St i s.heap ∧ i ≤ n ∧ (xs.length ≤ i → i = n) := by
  have hh : X.A.in1.handled = none := I.ok.hd hc
  by_cases hl : xs.length ≤ i
  · refine ⟨i, fun _ _ => False, fun j h => j = i ∧ k.Iter h it i ∧ ∀ b ∈ k.fp it, ∀ o, s.heap.get? b = some o → b ≠ it → h.get? b = some o, ?_, ⟨rfl, hi, fun b _ o e _ => e⟩, Nat.le_refl _, fun _ => rfl⟩
    refine ⟨fun j h st => let ⟨o, e, _⟩ := st.2.1.there; ⟨o, e⟩, fun j h h' st kp => ⟨st.1, st.2.1.at fun o e => kp it SK.mem_fp o e, fun b hb o e n => kp b hb o (st.2.2 b hb o e n)⟩, fun j s' Q E hj st _ => absurd hj (by rw [st.1]; exact Nat.lt_irrefl _), fun s' Q E st hE => ?_⟩
    obtain ⟨_, st, rest⟩ := st
    cases k with
    | l a =>
      obtain ⟨its, rv, p, _⟩ := I.list (show SqL X.K H a xs from hx)
      have pl : s'.heap.IsList a its.toArray := p.isList.at fun o e => rest a (by simp [SK.fp]) o e (hne a (.inl rfl))
      exact wpAny_nextOf_list_end hh st pl (by have := rv.length; simp; omega) hE
    | t a =>
      obtain ⟨its, rv, p, _⟩ := I.tuple (show SqT X.K H a xs from hx)
      have p' : s.heap.IsTuple a its.toArray := p
      have pl : s'.heap.IsTuple a its.toArray := p'.at fun o e => rest a (by simp [SK.fp]) o e (hne a (.inr rfl))
      exact wpAny_nextOf_tuple_end hh st pl (by have := rv.length; simp; omega) hE
    | s y =>
      obtain ⟨t, st⟩ := st
      cases (show xs = signsV y from hx)
      have hx : y.cps[i]? = none := Array.getElem?_eq_none (by simpa [signsV] using hl)
      cases ha : y.cps.all (· < 128)
      · exact wpAny_nextOf_wide_end hh (by simpa [strIterType, ha] using st) hx hE
      · exact wpAny_nextOf_ascii_end hh (by simpa [strIterType, ha] using st) hx hE
  · obtain ⟨P, St, D, q, _⟩ := sk_draws I hc hx hi (fun b _ => Classical.em _) hne
    exact ⟨xs.length, P, St, D, q, by omega, fun z => absurd z hl⟩
theorem sk_inj (I : Inv X pins σ H s) {k : SK} {xs ys : List V} (h : k.Has X.K H xs) (h' : k.Has X.K H ys) : xs = ys := by
  cases k with
  | l a => exact I.list_inj h h'
  | t a => exact I.tuple_inj h h'
  | s y => exact h.trans h'.symm
/-- how it begins -/
theorem sk_begins (I : Inv X pins σ H s) {k : SK} {xs : List V} {u : Value} (hx : k.Has X.K H xs) (r : RelV k.v u) :
    ∃ (o : Obj) (B : Heap → Prop), Begins u o B ∧ B s.heap ∧ k.lt s.heap ∧ ∀ (h : Heap) (it : Addr), h.get? it = some o → k.Iter h it 0 := by
  cases k with
  | l a =>
    obtain ⟨its, rv, p, _⟩ := I.list (show SqL X.K H a xs from hx)
    cases (show u = Value.ref a from r)
    exact ⟨_, _, begins_list a its.toArray, p.isList, p.lt, fun h it e => ⟨_, e, rfl, rfl⟩⟩
  | t a =>
    obtain ⟨its, rv, p, _⟩ := I.tuple (show SqT X.K H a xs from hx)
    cases (show u = Value.ref a from r)
    obtain ⟨o1, ho1, _⟩ := id p
    exact ⟨_, _, begins_tuple a its.toArray, p, Heap.lt_size ho1, fun h it e => ⟨_, e, rfl, rfl⟩⟩
  | s y =>
    obtain ⟨t, rfl⟩ := (show ∃ t, u = Value.str y t from r)
    exact ⟨_, _, begins_text y t, trivial, trivial, fun h it e => ⟨t, _, e, rfl, rfl⟩⟩
end
/-! ### zip of any two -/
def ItzG (k1 k2 : SK) (K : PySem.W.Frag) : It :=
  ⟨fun i H => ∃ (xs ys : List V) (x y : V), k1.Has K H xs ∧ k2.Has K H ys ∧ xs[i]? = some x ∧ ys[i]? = some y,
    fun i H v H' => ∃ T x y, v = .ref T ∧ H T = none ∧ H' = upd H T (.tup [x, y]) ∧ (∀ xs, k1.Has K H xs → xs[i]? = some x) ∧ ∀ ys, k2.Has K H ys → ys[i]? = some y,
    fun i H => ∃ xs ys : List V, k1.Has K H xs ∧ k2.Has K H ys ∧ (xs.length ≤ i ∨ ys.length ≤ i)⟩
def StG (k1 k2 : SK) (z TI TO i1 i2 : Addr) : Nat → Heap → Prop := fun i h => IsZip h z TI TO .none ∧ IsTupOf2 h TI (.ref i1) (.ref i2) ∧ (∃ x y, IsTupOf2 h TO x y) ∧ k1.Iter h i1 i ∧ k2.Iter h i2 i
section
variable {P : Program} {w : World} {K : PySem.W.Frag} {elts : List Expr} {kk : Nat} {tpos : Pos} {z TI TO i1 i2 : Addr} {k1 k2 : SK}
theorem mem5 {c : Addr} (h : c ∈ [z, TI, TO, i1, i2]) : c = z ∨ c = TI ∨ c = TO ∨ c = i1 ∨ c = i2 := by simpa using h
theorem out5 {c : Addr} (h : c ∉ [z, TI, TO, i1, i2]) : c ≠ z ∧ c ≠ TI ∧ c ≠ TO ∧ c ≠ i1 ∧ c ≠ i2 := by simpa using h
theorem turnG (D : ZipSep2 z TI TO i1 i2 (k1.fp i1) (k2.fp i2)) (n1 : ∀ a, (k1 = .l a ∨ k1 = .t a) → a ≠ i1) (n2 : ∀ a, (k2 = .l a ∨ k2 = .t a) → a ≠ i2) : Turn P w K (.Tuple elts kk tpos) (ItzG k1 k2 K) [z, TI, TO, i1, i2] z (StG k1 k2 z TI TO i1 i2) where
  mem := by simp
  obj := fun i h ⟨q1, q2, ⟨x, y, q3⟩, q4, q5⟩ c hc => by
    rcases mem5 hc with e | e | e | e | e
    · subst e; exact ⟨_, q1, fun v q => nomatch q⟩
    · subst e; exact ⟨_, q2, fun v q => nomatch q⟩
    · subst e; exact ⟨_, q3, fun v q => nomatch q⟩
    · subst e; exact q4.there
    · subst e; exact q5.there
  keep := fun i h h' ⟨q1, q2, ⟨x, y, q3⟩, q4, q5⟩ k =>
    ⟨k z (by simp) _ q1, k TI (by simp) _ q2, ⟨x, y, k TO (by simp) _ q3⟩, q4.at fun o q => k i1 (by simp) o q, q5.at fun o q => k i2 (by simp) o q⟩
  item := by
    intro X hP hw hK hc i pins s σ H E I hf st hg
    subst hP hw hK
    obtain ⟨q1, q2, ⟨x0, y0, q3⟩, q4, q5⟩ := st
    obtain ⟨xs, ys, x, y, hqx, hqy, hx, hy⟩ := hg
    obtain ⟨P1, S1, D1, s1, f1, g1⟩ := sk_draws I hc hqx q4 (fun b _ => Classical.em _) n1
    obtain ⟨P2, S2, D2, s2, f2, g2⟩ := sk_draws I hc hqy q5 (fun b _ => Classical.em _) n2
    have zl : z < s.heap.objs.size := Heap.lt_size q1
    refine wpAny_pyNext_zipD2_item D D1 D2 q1 q2 q3 s1 s2 (List.getElem?_eq_some_iff.mp hx).1 (List.getElem?_eq_some_iff.mp hy).1 fun u v g tk p1 p2 z' t' j1 j2 hT _ hk => ⟨_, rfl, wpAny_letOwnedTupleGo_zip (s := { s with heap := g, toks := tk }) z' fun g2' z2 sb => ?_⟩
    obtain ⟨x', hx', r1⟩ := g1 _ _ p1
    obtain ⟨y', hy', r2⟩ := g2 _ _ p2
    have ex : x' = x := Option.some.inj (hx'.symm.trans hx)
    have ey : y' = y := Option.some.inj (hy'.symm.trans hy)
    rw [ex] at r1
    rw [ey] at r2
    have pair2 : g2'.get? s.heap.objs.size = some { cls := .type "tuple", data := .seq #[u, v] } := (sb.2 _ (Nat.ne_of_gt zl)).trans hT
    have I1 : Inv X pins σ (upd H s.heap.objs.size (.tup [x, y])) { s with heap := g2', toks := tk } :=
      I.turnedNew (t' := tk) (ch := [z, TI, TO, i1, i2]) (fun c o hb q => by
        obtain ⟨n1, n2, n3, n4, n5⟩ := out5 hb
        exact (sb.2 c n1).trans (hk c o n1 n3 n4 n5 q)) hf (Nat.le_refl _) ⟨by show 2 ≤ sizeLine; decide, [u, v], .cons r1 (.cons r2 .nil), ⟨_, pair2, rfl, _, rfl⟩⟩
    refine ⟨.ref s.heap.objs.size, _, I1, rfl, ⟨_, x, y, rfl, I.hok.fresh (Nat.le_refl _), rfl, fun l hl => ?y1, fun l hl => ?y2⟩, ⟨z2, (sb.2 _ D.TIz).trans (hk _ _ D.TIz D.TITO D.TIi1 D.TIi2 q2), ⟨u, v, (sb.2 _ D.TOz).trans t'⟩, (f1 _ _ j1).at fun o q => (sb.2 _ D.zi1.symm).trans q, (f2 _ _ j2).at fun o q => (sb.2 _ D.zi2.symm).trans q⟩, fun c hcm => ?y3⟩
    case y1 => rw [sk_inj I hl hqx]; exact hx
    case y2 => rw [sk_inj I hl hqy]; exact hy
    case y3 =>
      have lt : c < s.heap.objs.size := by
        rcases mem5 hcm with e | e | e | e | e
        · subst e; exact zl
        · subst e; exact Heap.lt_size q2
        · subst e; exact Heap.lt_size q3
        · subst e; obtain ⟨_, e1, _⟩ := q4.there; exact Heap.lt_size e1
        · subst e; obtain ⟨_, e1, _⟩ := q5.there; exact Heap.lt_size e1
      rw [upd_ne (Nat.ne_of_lt lt)]
      exact (hf c hcm).1
  done := by
    intro X hP hw hK hc i pins s σ H E I hf st hg
    subst hP hw hK
    obtain ⟨q1, q2, ⟨x0, y0, q3⟩, q4, q5⟩ := st
    obtain ⟨xs, ys, hqx, hqy, e3⟩ := hg
    obtain ⟨m1, P1, S1, D1, s1, f1, g1⟩ := sk_ends I hc hqx q4 n1
    obtain ⟨m2, P2, S2, D2, s2, f2, g2⟩ := sk_ends I hc hqy q5 n2
    refine wpAny_pyNext_zipD2_end D D1 D2 q1 q2 q3 s1 s2 f1 f2 (e3.imp g1 g2) fun g tk hk => ⟨rfl, I.turnedL (t' := tk) (ch := [z, TI, TO, i1, i2]) (fun c o hb q => ?_) hf⟩
    obtain ⟨n1, n2, n3, n4, n5⟩ := out5 hb
    exact hk c o n1 n3 n4 n5 q
  self := fun A i s Q E st h => wpAny_pyIter_zip st.1 h
end
def iZipGt (K : PySem.W.Frag) (ta : TA) : TI := fun σ H R => ta σ H fun vs H1 => ∃ k1 k2 xs ys, vs = [k1.v, k2.v] ∧ k1.Has K H1 xs ∧ k2.Has K H1 ys ∧ R (ItzG k1 k2 K) H1
theorem fp_cases {k : SK} {it b : Addr} (h : b ∈ k.fp it) : b = it ∨ ∃ a, (k = .l a ∨ k = .t a) ∧ b = a := by
  cases k with
  | l a =>
    have : b = it ∨ b = a := by simpa [SK.fp] using h
    exact this.imp id fun e => ⟨a, .inl rfl, e⟩
  | t a =>
    have : b = it ∨ b = a := by simpa [SK.fp] using h
    exact this.imp id fun e => ⟨a, .inr rfl, e⟩
  | s x =>
    have : b = it := by simpa [SK.fp] using h
    exact .inl this
theorem lt_cases {h : Heap} {k : SK} (l : k.lt h) {a : Addr} (e : k = .l a ∨ k = .t a) : @LT.lt Nat _ a h.objs.size := by
  rcases e with e | e <;> subst e <;> exact l
theorem sk_ne {h : Heap} {k : SK} {n : Nat} (hn : h.objs.size ≤ n) (l : k.lt h) : ∀ a, (k = .l a ∨ k = .t a) → a ≠ n := fun a e z => by
  have := lt_cases l e
  have z' : @Eq Nat a n := z
  omega
theorem fp_le {h : Heap} {k : SK} {n b : Nat} (hn : h.objs.size ≤ n) (l : k.lt h) (hb : b ∈ k.fp n) : b = n ∨ b < h.objs.size := by
  rcases fp_cases hb with e | ⟨a, e1, e2⟩
  · exact .inl e
  · have := lt_cases l e1
    have e2' : @Eq Nat b a := e2
    exact .inr (by omega)
theorem sk_sep {h : Heap} {k1 k2 : SK} (l1 : k1.lt h) (l2 : k2.lt h) (n : Nat) (hn : n = h.objs.size) : ZipSep2 (n + 4) (n + 2) (n + 3) n (n + 1) (k1.fp n) (k2.fp (n + 1)) := by
  have f1 : ∀ b : Nat, b ∈ k1.fp n → b ≤ n := fun b hb => by rcases fp_le (Nat.le_of_eq hn.symm) l1 hb with q | q <;> omega
  have f2 : ∀ b : Nat, b ∈ k2.fp (n + 1) → b = n + 1 ∨ b < n := fun b hb => by rcases fp_le (h := h) (n := n + 1) (by omega) l2 hb with q | q <;> omega
  exact ⟨fun e => (by have e' : @Eq Nat (n + 2) (n + 4) := e; omega), fun e => (by have e' : @Eq Nat (n + 3) (n + 4) := e; omega), fun e => (by have e' : @Eq Nat (n + 2) (n + 3) := e; omega), fun e => (by have e' : @Eq Nat (n + 2) n := e; omega), SK.mem_fp,
    fun q => by (have := f1 (n + 4) q; omega), fun q => by (have := f1 (n + 3) q; omega), fun e => (by have e' : @Eq Nat (n + 2) (n + 1) := e; omega), SK.mem_fp, fun q => by (have := f2 (n + 4) q; omega), fun q => by (have := f2 (n + 3) q; omega),
    fun q => by (have := f2 n q; omega), fun q => by (have := f1 (n + 1) q; omega)⟩
theorem pi_zipG {X : Cx} {e e2 : Expr} {ta : TA} {p pos tpos : Pos} {elts : List Expr} {kk : Nat} (hg : Gl X "zip") (hm : X.mg "zip" = none) (ha : PA X [e, e2] ta)
    (hs : starEach [e, e2] X.env = (false, eval e X.env) :: starEach [e2] X.env := by rfl) (hpl : (backTo pos (starEach [e2] X.env)).any (·.1) = false := by rfl) :
    PI X (.Tuple elts kk tpos) (.Call (.Name "zip" p) [e, e2] [] pos) (iZipGt X.K ta) := by
  refine ⟨fun pins s σ H R I h => ?_⟩
  refine Call_ (ld_blt I hg hm PyProof.Rows.boot_zip (PyProof.Rows.callWith_type1 (thn (ha.run pos pins s σ H _ I h) fun us s1 ⟨vs, H1, I1, r1, q1⟩ => ?_) hs hpl))
  obtain ⟨k1, k2, xs, ys, ex, hqx, hqy, q⟩ := q1
  subst ex
  cases r1 with
  | cons r rr =>
    cases rr with
    | cons r' rr =>
      cases rr
      obtain ⟨o1, B1, b1, h1, l1, m1⟩ := sk_begins I1 hqx r
      obtain ⟨o2, B2, b2, h2, l2, m2⟩ := sk_begins I1 hqy r'
      have fresh5 : ∀ c, c ∈ [s1.heap.objs.size + 4, s1.heap.objs.size + 2, s1.heap.objs.size + 3, s1.heap.objs.size, s1.heap.objs.size + 1] → FpOk X pins H1 c := fun c hcm => by
        have hle : s1.heap.objs.size ≤ c := by
          rcases mem5 hcm with z | z | z | z | z <;> rw [z] <;> first | exact Nat.le_refl _ | exact Nat.le_add_right _ _
        exact I1.fpOk hle (I1.hok.fresh hle)
      refine zip_begins2 b1 b2 h1 h2 fun h' hz hTI hTO g1 g2 hsz hk => wpAny_pyIter_zip hz ?_
      have I2 : Inv X pins σ H1 { s1 with heap := h' } := I1.kept (t' := s1.toks) hk
      exact ⟨s1.heap.objs.size + 4, [s1.heap.objs.size + 4, s1.heap.objs.size + 2, s1.heap.objs.size + 3, s1.heap.objs.size, s1.heap.objs.size + 1], _, _, H1, rfl, I2,
        turnG (sk_sep l1 l2 s1.heap.objs.size rfl) (sk_ne (Nat.le_refl _) l1) (sk_ne (Nat.le_add_right _ _) l2), ⟨hz, hTI, ⟨_, _, hTO⟩, m1 _ _ g1, m2 _ _ g2⟩, fresh5, q⟩

/-! ### enumerate of any -/
def IteG (k : SK) (K : PySem.W.Frag) : It :=
  ⟨fun i H => ∃ (xs : List V) (x : V), k.Has K H xs ∧ xs[i]? = some x,
    fun i H v H' => ∃ T x, v = .ref T ∧ H T = none ∧ H' = upd H T (.tup [.int (i : Nat), x]) ∧ ∀ xs, k.Has K H xs → xs[i]? = some x,
    fun i H => ∃ xs : List V, k.Has K H xs ∧ xs.length ≤ i⟩
theorem turnE {P : Program} {w : World} {K : PySem.W.Frag} {elts : List Expr} {kk : Nat} {tpos : Pos} (k : SK) (e it : Addr) (hne : e ≠ it) (hef : e ∉ k.fp it) (n1 : ∀ a, (k = .l a ∨ k = .t a) → a ≠ it) :
    Turn P w K (.Tuple elts kk tpos) (IteG k K) [e, it] e (fun i h => (∃ old, IsEnum h e it ((i : Nat) : Int) old) ∧ k.Iter h it i) where
  mem := by simp
  obj := fun i h st b hb => by
    obtain ⟨⟨old, he⟩, hi⟩ := st
    have e' : b = e ∨ b = it := by simpa using hb
    rcases e' with z | z
    · rw [z]; exact ⟨_, he, fun v q => nomatch q⟩
    · rw [z]; exact hi.there
  keep := fun i h h' st k => let ⟨⟨old, he⟩, hi⟩ := st; ⟨⟨old, k e (by simp) _ he⟩, hi.at fun o q => k it (by simp) o q⟩
  item := by
    intro X hP hw hK hc i pins s σ H E I hf st hg
    subst hP hw hK
    obtain ⟨⟨old, he⟩, hit⟩ := st
    obtain ⟨xs, x, hq, hx⟩ := hg
    obtain ⟨P1, S1, D1, s1, f1, g1⟩ := sk_draws I hc hq hit (fun b _ => Classical.em _) n1
    have hel : e < s.heap.objs.size := Heap.lt_size he
    have hil : it < s.heap.objs.size := by obtain ⟨_, q, _⟩ := hit.there; exact Heap.lt_size q
    refine wpAny_pyNext_enum_itemC D1 he s1 (List.getElem?_eq_some_iff.mp hx).1 hne hef fun u h' tk hu ho st' hT hsz hk => ?_
    obtain ⟨x', hx', r1⟩ := g1 _ _ hu
    have ex : x' = x := Option.some.inj (hx'.symm.trans hx)
    rw [ex] at r1
    refine ⟨_, rfl, wpAny_letOwnedTupleGo_enum (s := { s with heap := h', toks := tk + 1 }) ho fun h'' he' sb => ?_⟩
    have hT2 : h''.get? s.heap.objs.size = some { cls := .type "tuple", data := .seq #[.int i tk, u] } := (sb.2 _ (Nat.ne_of_gt hel)).trans hT
    have new : ObjOk X.prog X.w (upd H s.heap.objs.size (.tup [.int (i : Nat), x])) h'' s.heap.objs.size (.tup [.int (i : Nat), x]) :=
      ⟨by show 2 ≤ sizeLine; decide, [.int i tk, u], .cons ⟨_, rfl⟩ (.cons r1 .nil), ⟨_, hT2, rfl, _, rfl⟩⟩
    have I1 : Inv X pins σ (upd H s.heap.objs.size (.tup [.int (i : Nat), x])) { s with heap := h'', toks := tk + 1 } :=
      I.turnedNew (ch := [e, it]) (fun b ob hb q => (sb.2 b (fun z => hb (by simp [z]))).trans (hk b ob (fun z => hb (by simp [z])) (fun z => hb (by simp [z])) q)) hf (Nat.le_refl _) new
    refine ⟨.ref s.heap.objs.size, _, I1, rfl, ⟨_, x, rfl, I.hok.fresh (Nat.le_refl _), rfl, fun ys hy => by rw [sk_inj I hy hq]; exact hx⟩, ⟨⟨u, ?_⟩, (f1 _ _ st').at fun o q => (sb.2 it (Ne.symm hne)).trans q⟩, fun b hb => ?_⟩
    · have e1 : ((i + 1 : Nat) : Int) = (i : Int) + 1 := by omega
      rw [e1]; exact he'
    · have hb' : b < s.heap.objs.size := by
        have e' : b = e ∨ b = it := by simpa using hb
        rcases e' with z | z
        · rw [z]; exact hel
        · rw [z]; exact hil
      rw [upd_ne (Nat.ne_of_lt hb')]
      exact (hf b hb).1
  done := by
    intro X hP hw hK hc i pins s σ H E I hf st hg
    subst hP hw hK
    obtain ⟨⟨old, he⟩, hit⟩ := st
    obtain ⟨xs, hq, hx⟩ := hg
    obtain ⟨f0, f1', f2, f3, f4, f5⟩ := hf it (by simp)
    obtain ⟨m1, P1, S1, D1, s1, f1, g1⟩ := sk_ends I hc hq hit n1
    have e1 := g1 hx
    subst e1
    exact wpAny_pyNext_enum_endD D1 he s1 fun h' eb => ⟨rfl, I.turned (t' := s.toks) (fun b o hb q => eb b o hb q) f0 f1' f3 f4 f5⟩
  self := fun A i s Q E st h => let ⟨⟨_, he⟩, _⟩ := st; wpAny_pyIter_enum he h
set_option maxHeartbeats 1000000 in
theorem meets_enum1 {v : Value} {o : Obj} {H : Heap → Prop} (B : Begins v o H) :
    Meets (Builtin.«enumerate.__new__» ⟨[.type "enumerate", v], []⟩) (fun _ R s => H s.heap ∧
      R (.ok (.ret (.ref (s.heap.push o).objs.size))) { s with heap := (s.heap.push o).push { cls := .type "enumerate", data := .fields #[.none, .bool false, .ref s.heap.objs.size, rawInt 0, .none, .none] } }) :=
  .of_wp fun prog w A R s h => by
    obtain ⟨hp, g, d, tk, os⟩ := s; obtain ⟨h1, h⟩ := h
    have hsub := sub_enumerate
    have q1 : ∀ {A' : Around} {E : Value → Shared → Prop} {Q : Value → Shared → Prop}, Q (.ref hp.objs.size) ⟨hp.push o, g, d, tk, os⟩ → wpAny (model prog w) A' (pyIter v) Q E ⟨hp, g, d, tk, os⟩ :=
      fun q => B.iter prog w _ _ ⟨hp, g, d, tk, os⟩ _ h1 q
    wp_walk using q1
    refine wpAny_stack_any fun st => wpAny_pure ?_
    split
    · rename_i c _ _ _ _ _
      cases (c == Value.type "enumerate")
      · wp_walk using q1
        exact ⟨_, rfl, h⟩
      · wp_walk using q1
        exact ⟨_, rfl, h⟩
    · wp_walk using q1
      exact ⟨_, rfl, h⟩
theorem enum_begins1 {prog : Program} {w : World} {A : Around} {E : Value → Shared → Prop} {s : Shared} {v : Value} {o : Obj} {H : Heap → Prop} {Q : Value → Shared → Prop} (B : Begins v o H) (h1 : H s.heap)
    (h : ∀ h', IsEnum h' (s.heap.objs.size + 1) s.heap.objs.size 0 .none → h'.get? s.heap.objs.size = some o → h'.objs.size = s.heap.objs.size + 2 →
      (∀ b o, s.heap.get? b = some o → h'.get? b = some o) → Q (.ref (s.heap.objs.size + 1)) { s with heap := h' }) :
    wpAny (model prog w) A (call (.type "enumerate") [v]) Q E s := by
  refine callType_new F.called_enumerate (by decide) (F.typeCall_enumerate_1 _) (F.newCall_enumerate_1 _) (fun obj => F.args_object_init_2 obj _) F.entry_enumerate_new
    (meets_enum1 B) ⟨h1, ?_⟩
  have hz : (s.heap.push o).objs.size = s.heap.objs.size + 1 := Heap.size_push ..
  show _ ∧ _
  rw [hz]
  have he : IsEnum ((s.heap.push o).push { cls := .type "enumerate", data := .fields #[.none, .bool false, .ref s.heap.objs.size, rawInt 0, .none, .none] }) (s.heap.objs.size + 1) s.heap.objs.size 0 .none := by
    have := Heap.get?_push_size (s.heap.push o) (o := { cls := .type "enumerate", data := .fields #[.none, .bool false, .ref s.heap.objs.size, rawInt 0, .none, .none] }) rfl
    rw [hz] at this; exact this
  refine ⟨⟨_, he, rfl⟩, h _ he (Heap.get?_push_of_some _ (Heap.get?_push_size _ B.free)) (by rw [Heap.size_push, hz]) fun b o x => Heap.get?_push_of_some _ (Heap.get?_push_of_some _ x)⟩
def iEnumGt (K : PySem.W.Frag) (ta : TA) : TI := fun σ H R => ta σ H fun vs H1 => ∃ k xs, vs = [SK.v k] ∧ k.Has K H1 xs ∧ R (IteG k K) H1
theorem pi_enumG {X : Cx} {e : Expr} {ta : TA} {p pos tpos : Pos} {elts : List Expr} {kk : Nat} (hg : Gl X "enumerate") (hm : X.mg "enumerate" = none) (ha : PA X [e] ta) (hs : starEach [e] X.env = [(false, eval e X.env)] := by rfl) :
    PI X (.Tuple elts kk tpos) (.Call (.Name "enumerate" p) [e] [] pos) (iEnumGt X.K ta) := by
  refine ⟨fun pins s σ H R I h => ?_⟩
  refine Call_ (ld_blt I hg hm boot_enumerate (PyProof.Rows.callWith_type1 (thn (ha.run pos pins s σ H _ I h) fun us s1 ⟨vs, H1, I1, r1, q1⟩ => ?_) hs rfl))
  obtain ⟨k, xs, ex, hq, q⟩ := q1
  subst ex
  cases r1 with
  | cons r rr =>
    cases rr
    obtain ⟨o1, B1, b1, h1, l1, m1⟩ := sk_begins I1 hq r
    refine enum_begins1 b1 h1 fun h' he g1 hsz hk => wpAny_pyIter_enum he ?_
    have I2 : Inv X pins σ H1 { s1 with heap := h' } := I1.kept (t' := s1.toks) hk
    have nf : s1.heap.objs.size + 1 ∉ k.fp s1.heap.objs.size := fun hb => by
      have := fp_le (b := s1.heap.objs.size + 1) (Nat.le_refl _) l1 hb
      omega
    refine ⟨s1.heap.objs.size + 1, [s1.heap.objs.size + 1, s1.heap.objs.size], _, _, H1, rfl, I2, turnE k (s1.heap.objs.size + 1) s1.heap.objs.size (Nat.succ_ne_self _) nf (sk_ne (Nat.le_refl _) l1), ⟨⟨.none, he⟩, m1 _ _ g1⟩, fun b hb => ?_, q⟩
    have e' : b = s1.heap.objs.size + 1 ∨ b = s1.heap.objs.size := by simpa using hb
    have hle : s1.heap.objs.size ≤ b := by
      rcases e' with z | z <;> rw [z] <;> first | exact Nat.le_refl _ | exact Nat.le_add_right _ _
    exact I1.fpOk hle (I1.hok.fresh hle)
end WS
namespace WS
open PySem PySem.Spec PyProof.Rows L2

/-! ## sources as data -/
def signsD (x : Str) : List D := x.cps.toList.map fun c => .str ⟨#[c]⟩
def srcD : D → Option (List D)
  | .lst ds => some ds
  | .rdl ds => some ds
  | .tup ds => some ds
  | .str x => some (signsD x)
  | _ => none
def gZipG : List D → Option (List D)
  | [d, e] => (srcD d).bind fun xs => (srcD e).map fun ys => List.zipWith (fun x y => .tup [x, y]) xs ys
  | _ => none
def gEnumG : List D → Option (List D)
  | [d] => (srcD d).map fun xs => (xs.zipIdx).map fun x => .tup [.int (x.2 : Int), x.1]
  | _ => none
def iSrc (e : E) : EL := fun ρ k => (e ρ k).bind fun x => (srcD x.1).map fun z => (z, x.2.1, x.2.2)
section
variable {K : PySem.W.Frag} {S : Sx}
theorem signs_rp (x : Str) : RpL K S (signsV x) (signsD x) := by
  unfold signsV signsD
  induction x.cps.toList with
  | nil => exact .nil
  | cons c r ih => exact .cons (.str _) ih
theorem SK.Has.sub {H H' : Hp} {k : SK} {xs : List V} (h : k.Has K H xs) (s : Sub H H') : k.Has K H' xs := by
  cases k with
  | l a => exact s.sqL h
  | t a => exact s.sqT h
  | s x => exact h
theorem src_sk {v : V} {d : D} {ds : List D} (r : Rp K S v d) (e : srcD d = some ds) : ∃ k xs, v = SK.v k ∧ k.Has K S.hp xs ∧ RpL K S xs ds := by
  cases d with
  | lst xs => cases e; cases r with | lst h q => exact ⟨.l _, _, rfl, .inl (.inl h), q⟩
  | rdl xs => cases e; cases r with | rdl h q => exact ⟨.l _, _, rfl, h, q⟩
  | tup xs => cases e; cases r with | tup h q => exact ⟨.t _, _, rfl, h, q⟩
  | str x => cases e; cases r with | str => exact ⟨.s x, _, rfl, rfl, signs_rp x⟩
  | _ => cases e
theorem itd_zipG {k1 k2 : SK} {xs ys : List V} {ds es : List D} (h : k1.Has K S.hp xs) (h' : k2.Has K S.hp ys) (r : RpL K S xs ds) (r' : RpL K S ys es) : ItD K S (ItzG k1 k2 K) (List.zipWith (fun x y => .tup [x, y]) ds es) := by
  intro S1 H1 l sh i
  have h1 := (h.sub l.s).sub sh
  have h2 := (h'.sub l.s).sub sh
  refine ⟨fun d hd => ?_, fun hd => ?_⟩
  · obtain ⟨x, y, hx, hy, e⟩ := zip_get hd
    obtain ⟨v, hv, rv⟩ := r.get hx
    obtain ⟨u, hu, ru⟩ := r'.get hy
    subst e
    refine ⟨⟨xs, ys, v, u, h1, h2, hv, hu⟩, fun z H2 q => ?_⟩
    obtain ⟨T, v', u', e1, n, e2, q1, q2⟩ := q
    have z1 := q1 xs h1
    have z2 := q2 ys h2
    rw [hv] at z1; cases z1
    rw [hu] at z2; cases z2
    subst e1 e2
    have g := Grow.add (o := .tup [v, u]) sh n
    exact ⟨_, g, .tup (.inl (.inl Sx.add_at)) (.cons ((rv.mono l).mono g.le) (.cons ((ru.mono l).mono g.le) .nil))⟩
  · exact ⟨xs, ys, h1, h2, by rw [r.length, r'.length]; exact zip_none hd⟩
theorem itd_enumG {k : SK} {xs : List V} {ds : List D} (h : k.Has K S.hp xs) (r : RpL K S xs ds) : ItD K S (IteG k K) ((ds.zipIdx).map fun x => .tup [.int (x.2 : Int), x.1]) := by
  intro S1 H1 l sh i
  have h1 := (h.sub l.s).sub sh
  refine ⟨fun d hd => ?_, fun hd => ?_⟩
  · rw [List.getElem?_map, List.getElem?_zipIdx] at hd
    cases hx : ds[i]? with
    | none => rw [hx] at hd; cases hd
    | some x =>
      rw [hx] at hd
      simp only [Option.map_some, Nat.zero_add, Option.some.injEq] at hd
      subst hd
      obtain ⟨v, hv, rv⟩ := r.get hx
      refine ⟨⟨xs, v, h1, hv⟩, fun z H2 q => ?_⟩
      obtain ⟨T, v', e1, n, e2, q1⟩ := q
      have z1 := q1 xs h1
      rw [hv] at z1; cases z1
      subst e1 e2
      have g := Grow.add (o := .tup [V.int (i : Nat), v]) sh n
      exact ⟨_, g, .tup (.inl (.inl Sx.add_at)) (.cons (.int _) (.cons ((rv.mono l).mono g.le) .nil))⟩
  · have := List.getElem?_eq_none_iff.mp hd
    exact ⟨xs, h1, by rw [r.length]; simpa using this⟩
theorem itd_str {x : Str} : ItD K S (Its x) (signsD x) := by
  intro S1 H1 l sh i
  refine ⟨fun d hd => ?_, fun hd => ?_⟩
  · unfold signsD at hd
    rw [List.getElem?_map, Array.getElem?_toList] at hd
    cases hx : x.cps[i]? with
    | none => rw [hx] at hd; cases hd
    | some c =>
      rw [hx] at hd
      cases hd
      refine ⟨(Array.getElem?_eq_some_iff.mp hx).1, fun z H2 q => ?_⟩
      obtain ⟨e, c', hc, e2⟩ := q
      rw [hx] at hc; cases hc
      subst e e2
      exact ⟨S1, Grow.refl sh, .str _⟩
  · have := List.getElem?_eq_none_iff.mp hd
    show x.cps.size ≤ i
    simpa [signsD] using this
end
section
variable {X : Cx} {tg e e2 : Expr} {f : E} {fs : EL} {p pos tpos : Pos} {elts : List Expr} {kk : Nat}
def rSrcI (K : PySem.W.Frag) (tl : TE) : TI := fun σ H R => tl σ H fun x H1 => (∃ a, x = .ref a ∧ (((∃ xs, SqL K H1 a xs) ∧ R (Itl K a) H1) ∨ ((∃ xs, SqT K H1 a xs) ∧ R (Itt K a) H1))) ∨ ∃ y, x = .str y ∧ R (Its y) H1
theorem i_src0 {tl : TE} (h : PE X e tl) : PI X tg e (rSrcI X.K tl) := by
  refine ⟨fun pins s σ H R I hw => ?_⟩
  refine thn (h.run pins s σ H _ I hw) ?_
  intro v s1 ⟨x, H1, I1, r1, q1⟩
  rcases q1 with ⟨a, ex, q1⟩ | ⟨y, ex, q1⟩
  · subst ex
    cases r1
    have fp : ∀ b ∈ [s1.heap.objs.size], FpOk X pins H1 b := fun b hb => by
      rw [List.mem_singleton.mp hb]
      exact I1.fpOk (Nat.le_refl _) (I1.hok.fresh (Nat.le_refl _))
    rcases q1 with ⟨⟨xs, hq⟩, q⟩ | ⟨⟨xs, hq⟩, q⟩
    · obtain ⟨its, rv, pl, hz⟩ := I1.list hq
      exact wpAny_pyIter_list pl.isList ⟨s1.heap.objs.size, [s1.heap.objs.size], _, _, H1, rfl, I1.kept (t' := s1.toks) fun b o e => Heap.get?_push_of_some _ e, turn_list a _, ⟨_, Heap.get?_push_size _ rfl, rfl, rfl⟩, fp, q⟩
    · obtain ⟨its, rv, pl, hz⟩ := I1.tuple hq
      exact wpAny_pyIter_tuple (show s1.heap.IsTuple a its.toArray from pl) ⟨s1.heap.objs.size, [s1.heap.objs.size], _, _, H1, rfl, I1.kept (t' := s1.toks) fun b o e => Heap.get?_push_of_some _ e, turn_tuple a _, ⟨_, Heap.get?_push_size _ rfl, rfl, rfl⟩, fp, q⟩
  · subst ex
    obtain ⟨t, rfl⟩ := r1
    cases ha : y.cps.all (· < 128)
    · exact wpAny_pyIter_wide ha (pi_one (tk := s1.toks) I1 _ (turn_str _ y t "str_iterator" (.inr rfl)) ⟨_, Heap.get?_push_size _ rfl, rfl, rfl⟩ q1)
    · exact wpAny_pyIter_ascii ha (pi_one (tk := s1.toks) I1 _ (turn_str _ y t "str_ascii_iterator" (.inl rfl)) ⟨_, Heap.get?_push_size _ rfl, rfl, rfl⟩ q1)
theorem i_src (h : PE X e (TEv X.K f)) : PI X tg e (TIv X.K (iSrc f)) := (i_src0 h).imp fun σ H R hw => by
  obtain ⟨S, F, ρ, dk, ds, ρ', dk', Rr, e, q⟩ := hw
  unfold iSrc at e
  cases ea : f ρ dk with
  | none => rw [ea] at e; cases e
  | some x =>
    obtain ⟨d, ρ1, k1⟩ := x
    rw [ea] at e
    simp only [Option.bind_some] at e
    refine ⟨S, F, ρ, dk, d, ρ1, k1, Rr, ea, fun v H1 S1 l1 R1 rv => ?_⟩
    cases d with
    | lst xs =>
      cases e
      cases rv with
      | lst hs hr => exact .inl ⟨_, rfl, .inl ⟨⟨_, R1.sh.sqL (.inl (.inl hs))⟩, q _ H1 S1 l1 R1 (itd_list' (.inl (.inl hs)) hr)⟩⟩
    | rdl xs =>
      cases e
      cases rv with
      | rdl hs hr => exact .inl ⟨_, rfl, .inl ⟨⟨_, R1.sh.sqL hs⟩, q _ H1 S1 l1 R1 (itd_list' hs hr)⟩⟩
    | tup xs =>
      cases e
      cases rv with
      | tup hs hr => exact .inl ⟨_, rfl, .inr ⟨⟨_, R1.sh.sqT hs⟩, q _ H1 S1 l1 R1 (itd_tup hs hr)⟩⟩
    | str y =>
      cases e
      cases rv with
      | str => exact .inr ⟨_, rfl, q _ H1 S1 l1 R1 itd_str⟩
    | _ => cases e
theorem i_zipG (hg : Gl X "zip") (hm : X.mg "zip" = none) (ha : PA X [e, e2] (TAv X.K fs)) (hs : starEach [e, e2] X.env = (false, eval e X.env) :: starEach [e2] X.env := by kernel_rfl!) (hpl : (backTo pos (starEach [e2] X.env)).any (·.1) = false := by kernel_rfl!) :
    PI X (.Tuple elts kk tpos) (.Call (.Name "zip" p) [e, e2] [] pos) (TIv X.K (iApp gZipG fs)) :=
  (pi_zipG hg hm ha hs hpl).imp fun σ H R h => tiv_app (t := iZipGt X.K) (r := fun vs H1 R => ∃ k1 k2 xs ys, vs = [SK.v k1, SK.v k2] ∧ k1.Has X.K H1 xs ∧ k2.Has X.K H1 ys ∧ R (ItzG k1 k2 X.K) H1) (fun _ _ _ _ h => h) (fun S H vs ds zs R sh r e q => by
    unfold gZipG at e
    split at e
    case h_2 => cases e
    obtain ⟨xs, e1, e⟩ := Option.bind_eq_some_iff.mp e
    obtain ⟨ys, e2, e⟩ := Option.map_eq_some_iff.mp e
    subst e
    cases r with
    | cons r1 r2 =>
      cases r2 with
      | cons r2 r3 =>
        cases r3
        obtain ⟨k1, us, rfl, h1, q1⟩ := src_sk r1 e1
        obtain ⟨k2, ws, rfl, h2, q2⟩ := src_sk r2 e2
        exact ⟨_, _, _, _, rfl, h1.sub sh, h2.sub sh, q _ (itd_zipG h1 h2 q1 q2)⟩) h
theorem i_enumG (hg : Gl X "enumerate") (hm : X.mg "enumerate" = none) (ha : PA X [e] (TAv X.K fs)) (hs : starEach [e] X.env = [(false, eval e X.env)] := by kernel_rfl!) :
    PI X (.Tuple elts kk tpos) (.Call (.Name "enumerate" p) [e] [] pos) (TIv X.K (iApp gEnumG fs)) :=
  (pi_enumG hg hm ha hs).imp fun σ H R h => tiv_app (t := iEnumGt X.K) (r := fun vs H1 R => ∃ k xs, vs = [SK.v k] ∧ k.Has X.K H1 xs ∧ R (IteG k X.K) H1) (fun _ _ _ _ h => h) (fun S H vs ds zs R sh r e q => by
    unfold gEnumG at e
    split at e
    case h_2 => cases e
    obtain ⟨xs, e1, e⟩ := Option.map_eq_some_iff.mp e
    subst e
    cases r with
    | cons r1 r2 =>
      cases r2
      obtain ⟨k1, us, rfl, h1, q1⟩ := src_sk r1 e1
      exact ⟨_, _, rfl, h1.sub sh, q _ (itd_enumG h1 q1)⟩) h
end
/-! reckoned -/
section
variable {ρ : List Sl} {k : Dk} {e : E} {xs : List D} {x : Str}
theorem ap_iSrc : iSrc e ρ k = (e ρ k).bnd fun x => (srcD x.1).mpd fun z => (z, x.2.1, x.2.2) := nrfl rfl
theorem sr_l : srcD (.lst xs) = some xs := nrfl rfl
theorem sr_t : srcD (.tup xs) = some xs := nrfl rfl
theorem sr_s : srcD (.str x) = some (signsD x) := nrfl rfl
end
end WS
namespace WS
open PySem PySem.Spec PyProof.Rows L2
variable {W : WX}

/-! ## calls by names -/
def prm {α : Type} (π : List Nat) (xs : List α) : List α := π.filterMap fun i => xs[i]?
theorem prm_vals {π : List Nat} {vs : List V} {us : List Value} (r : Vals vs us) : Vals (prm π vs) (prm π us) := by
  induction π with
  | nil => exact .nil
  | cons i π ih =>
    show Vals (List.filterMap _ (i :: π)) (List.filterMap _ (i :: π))
    rw [List.filterMap_cons, List.filterMap_cons]
    cases h : vs[i]? with
    | none =>
      have hu : us[i]? = none := List.getElem?_eq_none_iff.mpr (by rw [← r.length]; exact List.getElem?_eq_none_iff.mp h)
      rw [hu]; exact ih
    | some v =>
      obtain ⟨u, hu, ru⟩ := r.get h
      rw [hu]; exact .cons ru ih
theorem prm_rpl {K : PySem.W.Frag} {S : Sx} {π : List Nat} {vs : List V} {us : List D} (r : RpL K S vs us) : RpL K S (prm π vs) (prm π us) := by
  induction π with
  | nil => exact .nil
  | cons i π ih =>
    show RpL K S (List.filterMap _ (i :: π)) (List.filterMap _ (i :: π))
    rw [List.filterMap_cons, List.filterMap_cons]
    cases h : us[i]? with
    | none =>
      have hu : vs[i]? = none := List.getElem?_eq_none_iff.mpr (by rw [r.length]; exact List.getElem?_eq_none_iff.mp h)
      rw [hu]; exact ih
    | some v =>
      obtain ⟨u, hu, ru⟩ := r.get h
      rw [hu]; exact .cons ru ih
theorem Vals.cat {vs ws : List V} {us zs : List Value} (a : Vals vs us) (b : Vals ws zs) : Vals (vs ++ ws) (us ++ zs) := a.append b
/-- a def stands under its name; it computes F -/
structure Cd (P : Program) (w : World) (K : PySem.W.Frag) (mg : Str → Option Value) (base : Heap) (k : Nat) (x : Str) (n : Nat) (F : Fn) (st : Stmt) (ps : List Str) : Prop where
  ex : ∃ (f : Addr) (fd : FuncData), FnG P w K mg base CX0 k f fd ps (spS K n F) ∧ mg x = some (.ref f) ∧ Fun K x x st f fd
section
variable {P : Program} {w : World} {K : PySem.W.Frag} {mg : Str → Option Value} {base : Heap} {k : Nat}
theorem cd_mk {x : Str} {st : Stmt} {N ps : List Str} (body : SS) (n m : Nat) (D : Df K mg x st) (SC : FnScope N ps (defScope st)) (hps : ps.length = n) (hm : N.length = m) (hN : n ≤ m)
    (hb : ∀ (f : Addr) (cdv : Value) (A : Around) (outer : List Env) (s : Shared) (H : Hp) (E : XK), A.guards = some [] → Room k (A.deeper (envOfC x (defScope st) s.heap.objs.size f cdv)) →
      PSs (cxOf CX0 P w K mg base N x (defScope st) f cdv A outer s H E).nox (defBody st) (TSv K W0 body)) : Cd P w K mg base (k + 1) x n (runS m body) st ps := by
  subst hm
  obtain ⟨f, fd, Fu, m⟩ := D
  exact ⟨f, fd, fnS n hps hN Fu SC (hb f), m, Fu⟩
theorem Cd.cw {x : Str} {st : Stmt} {ps : List Str} {n : Nat} {F : Fn} (c : Cd P w K mg base k x n F st ps)
    (hbind : ∀ (kV doc pm : Value) (an : Option Addr) (cdv ct : Value) (us : List Value), us.length = ps.length → bindArgs (PySem.W.fnOf x x (defArgs st) (defBody st) (defScope st) .none kV doc pm an cdv ct) ⟨us, []⟩ = pure (ps.zip us)) : Cw P w K mg base k x n F := by
  obtain ⟨f, fd, G, m, Fu⟩ := c.ex
  exact ⟨f, fd, ps, G, m, Fu.kp, Fu.binds hbind⟩
end
/-- f(e, .., k = v, ..): the keywords' names ks; π puts all in the parameters' order -/
def eCallK (n : Nat) (F : Fn) (π : List Nat) (a b : EL) : E := fun ρ k => (a ρ k).bind fun x => (b x.2.1 x.2.2).bind fun y => if (prm π (x.1 ++ y.1)).length = n then (F (prm π (x.1 ++ y.1)) y.2.2).map fun z => (z.1, y.2.1, z.2) else none
section
variable {X : Cx} {x : Str} {p pos : Pos} {a : Expr} {es : List Expr} {kws : List Keyword} {fs gs : EL} {n j : Nat} {F : Fn} {st : Stmt} {ps ks : List Str} {π : List Nat}
theorem pk_of {h : EL} {e : Expr} {f : E} {nm : Option Str} {kpos : Pos} (ha : PE X e (TEv X.K f)) (hr : PK X kws (TAv X.K h)) : PK X (⟨nm, e, kpos⟩ :: kws) (TAv X.K (aCons f h)) := by
  have := pk_cons (nm := nm) (kpos := kpos) ha hr
  exact ⟨fun pos pins s σ H Q I q => this.run pos pins s σ H Q I (tav_cons q)⟩
theorem pk_none : PK X [] (TAv X.K aNil) := ⟨fun pos pins s σ H Q I q => pk_nil.run pos pins s σ H Q I (tav_nil q)⟩
theorem goK {pins : List (Addr × Obj)} {σ : L2.St} {H : Hp} {s : Shared} {Q : VK} {f : Addr} {fd : FuncData} {sp : Sp} {k : Nat} {E : XK} {us ws : List Value} {vs : List V} (G : FnG X.prog X.w X.K X.mg X.base CX0 k f fd ps sp) (hgu : X.A.guards = some []) (hr : Room k X.A)
    (hb : BindsTo s fd ⟨us, ks.zip ws⟩ (ps.zip (prm π (us ++ ws)))) (hx : Passes CX0 X E) (I : Inv X pins σ H s) (r : Vals vs (us ++ ws)) (h : sp (prm π vs) H Q E) :
    wpAny (model X.prog X.w) X.A (call (.ref f) us (ks.zip ws)) (EP X pins σ Q) X.xe s := by
  refine wpAny_call (codeAny_mono (G.go X.A X.stack s H ⟨us, ks.zip ws⟩ _ _ Q E hgu hr I.env0 hb (prm_vals r) h) ?_)
  intro res s' hq
  cases res with
  | error err => exact hx pins σ H s err s' I hq
  | ok fl =>
    cases fl with
    | ret u => exact I.after hq
    | next => exact hq.elim
    | brk => exact hq.elim
    | cont => exact hq.elim
theorem tev_callK {H : Hp} {σ : L2.St} {Q : VK} {Ex : XK} {m1 m2 : Nat} (h : TEv X.K (eCallK n F π fs gs) σ H Q) :
    TAv X.K fs σ H fun vs H1 => TAv X.K gs σ H1 fun zs H2 => spS X.K n F (prm π (vs ++ zs)) H2 Q Ex := by
  obtain ⟨S, F0, ρ, dk, d, ρ', dk', R, e, q⟩ := h
  unfold eCallK at e
  obtain ⟨⟨ds, ρ1, k1⟩, e1, e⟩ := Option.bind_eq_some_iff.mp e
  obtain ⟨⟨ds2, ρ2, k2⟩, e2, e⟩ := Option.bind_eq_some_iff.mp e
  split at e
  case isFalse => cases e
  rename_i hn
  obtain ⟨⟨d', k3⟩, e3, e⟩ := Option.map_eq_some_iff.mp e
  cases e
  refine ⟨S, F0, ρ, dk, ds, ρ1, k1, R, e1, fun vs H1 S1 l1 R1 rv => ⟨S1, F0, ρ1, k1, ds2, _, k2, R1, e2, fun zs H2 S2 l2 R2 rz => ?_⟩⟩
  have ra : RpL X.K S2 (prm π (vs ++ zs)) (prm π (ds ++ ds2)) := prm_rpl ((rv.mono l2).app rz)
  exact ⟨by rw [ra.length]; exact hn, S2, _, _, k2, _, _, R2.leave, ra, e3, fun v H3 S3 l3 R3 rv3 => q v H3 S3 ((l1.trans l2).trans l3) (R2.back l3 R3) rv3⟩
theorem d_callK (c : Cd X.prog X.w X.K X.mg X.base j x n F st ps) (hgu : X.A.guards = some []) (hr : Room j X.A) (hg : Gl X x) (ha : PA X (a :: es) (TAv X.K fs)) (hkw : PK X kws (TAv X.K gs)) (m1 m2 : Nat)
    (hb : ∀ (kV doc pm : Value) (an : Option Addr) (cdv ct : Value) (us ws : List Value), us.length = m1 → ws.length = m2 → bindArgs (PySem.W.fnOf x x (defArgs st) (defBody st) (defScope st) .none kV doc pm an cdv ct) ⟨us, ks.zip ws⟩ = pure (ps.zip (prm π (us ++ ws))))
    (h1 : ∀ ρ k y, fs ρ k = some y → y.1.length = m1) (h2 : ∀ ρ k y, gs ρ k = some y → y.1.length = m2)
    (hall : (backToKw pos (keywordEach kws X.env)).all (·.1.isSome) = true := by kernel_rfl!) (hks : (backToKw pos (keywordEach kws X.env)).filterMap (·.1) = ks := by kernel_rfl!)
    (hdb : (x == ("__debug__" : Str)) = false := by decide) (he : starEach (a :: es) X.env = (false, eval a X.env) :: starEach es X.env := by kernel_rfl!)
    (hpl : ((backTo pos (starEach (a :: es) X.env)).any (·.1) || (backToKw pos (keywordEach kws X.env)).any (·.1.isNone)) = false := by kernel_rfl!) :
    PE X (.Call (.Name x p) (a :: es) kws pos) (TEv X.K (eCallK n F π fs gs)) := by
  obtain ⟨f, fd, G, m, Fu⟩ := c.ex
  refine ⟨fun pins s σ H Q I h => ?_⟩
  refine wpAny_Call_Name_kw (ld_glob I hg m ?_ hdb)
  have h' := tev_callK (Ex := E0) (m1 := m1) (m2 := m2) h
  have len1 : TAv X.K fs σ H fun vs H1 => vs.length = m1 ∧ TAv X.K gs σ H1 fun zs H2 => zs.length = m2 ∧ spS X.K n F (prm π (vs ++ zs)) H2 Q E0 := by
    obtain ⟨S, F0, ρ, dk, d, ρ', dk', R, e, q⟩ := h'
    refine ⟨S, F0, ρ, dk, d, ρ', dk', R, e, fun v H' S' l R' rv => ⟨rv.length.trans (h1 _ _ _ e), ?_⟩⟩
    obtain ⟨S2, F2, ρ2, dk2, d2, ρ2', dk2', R2, e2, q2⟩ := q v H' S' l R' rv
    exact ⟨S2, F2, ρ2, dk2, d2, ρ2', dk2', R2, e2, fun v2 H2 S2' l2 R2' rv2 => ⟨rv2.length.trans (h2 _ _ _ e2), q2 v2 H2 S2' l2 R2' rv2⟩⟩
  refine PySem.W.callWith_KW (h₀ := X.base) I.ok.mod.kin Fu.kp hall (thn (ha.run pos pins s σ H _ I len1) fun us s1 ⟨vs, H1, I1, r, l1, q⟩ => ?_) hpl he
  refine thn (hkw.run pos pins s1 σ H1 _ I1 q) fun ws s2 ⟨zs, H2, I2, rz, l2, q2⟩ => ⟨I2.kIn, ?_⟩
  rw [hks]
  obtain ⟨oc, od, kV, doc, pm, an, cdv, ct, osl, rfl, lk, hcd⟩ := Fu.ex
  exact goK G hgu hr (.of_eq (hb kV doc pm an cdv ct us ws (r.length.symm.trans l1) (rz.length.symm.trans l2))) pass0 I2 (r.append rz) q2
theorem d_callK0 (c : Cd X.prog X.w X.K X.mg X.base j x n F st ps) (hgu : X.A.guards = some []) (hr : Room j X.A) (hg : Gl X x) (hkw : PK X kws (TAv X.K gs)) (m2 : Nat)
    (hb : ∀ (kV doc pm : Value) (an : Option Addr) (cdv ct : Value) (ws : List Value), ws.length = m2 → bindArgs (PySem.W.fnOf x x (defArgs st) (defBody st) (defScope st) .none kV doc pm an cdv ct) ⟨[], ks.zip ws⟩ = pure (ps.zip (prm π ws)))
    (h2 : ∀ ρ k y, gs ρ k = some y → y.1.length = m2)
    (hall : (backToKw pos (keywordEach kws X.env)).all (·.1.isSome) = true := by kernel_rfl!) (hks : (backToKw pos (keywordEach kws X.env)).filterMap (·.1) = ks := by kernel_rfl!)
    (hdb : (x == ("__debug__" : Str)) = false := by decide)
    (hpl : ((backTo pos (starEach [] X.env)).any (·.1) || (backToKw pos (keywordEach kws X.env)).any (·.1.isNone)) = false := by kernel_rfl!) :
    PE X (.Call (.Name x p) [] kws pos) (TEv X.K (eCallK n F π aNil gs)) := by
  obtain ⟨f, fd, G, m, Fu⟩ := c.ex
  refine ⟨fun pins s σ H Q I h => ?_⟩
  refine wpAny_Call_Name_kw (ld_glob I hg m ?_ hdb)
  have h' := tev_callK (Ex := E0) (m1 := 0) (m2 := m2) h
  have len1 : TAv X.K gs σ H fun zs H2 => zs.length = m2 ∧ spS X.K n F (prm π zs) H2 Q E0 := by
    obtain ⟨S, F0, ρ, dk, d, ρ', dk', R, e, q⟩ := h'
    cases e
    obtain ⟨S2, F2, ρ2, dk2, d2, ρ2', dk2', R2, e2, q2⟩ := q [] H S (Le.refl S) R .nil
    exact ⟨S2, F2, ρ2, dk2, d2, ρ2', dk2', R2, e2, fun v2 H2 S2' l2 R2' rv2 => ⟨rv2.length.trans (h2 _ _ _ e2), q2 v2 H2 S2' l2 R2' rv2⟩⟩
  refine PySem.W.callWith_KW0 (h₀ := X.base) I.ok.mod.kin Fu.kp hall (thn (hkw.run pos pins s σ H _ I len1) fun ws s2 ⟨zs, H2, I2, rz, l2, q2⟩ => ⟨I2.kIn, ?_⟩) hpl
  rw [hks]
  obtain ⟨oc, od, kV, doc, pm, an, cdv, ct, osl, rfl, lk, hcd⟩ := Fu.ex
  exact goK (us := []) G hgu hr (.of_eq (hb kV doc pm an cdv ct ws (rz.length.symm.trans l2))) pass0 I2 rz q2
theorem len_nil : ∀ ρ k y, aNil ρ k = some y → y.1.length = 0 := fun ρ k y h => by cases h; rfl
theorem len_cons {f : E} {h : EL} {m : Nat} (q : ∀ ρ k y, h ρ k = some y → y.1.length = m) : ∀ ρ k y, aCons f h ρ k = some y → y.1.length = m + 1 := fun ρ k y e => by
  unfold aCons at e
  obtain ⟨x, e1, e⟩ := Option.bind_eq_some_iff.mp e
  obtain ⟨z, e2, e⟩ := Option.map_eq_some_iff.mp e
  subst e
  simp [q _ _ _ e2]
theorem ap_callK {ρ : List Sl} {k : Dk} : eCallK n F π fs gs ρ k = (fs ρ k).bnd fun x => (gs x.2.1 x.2.2).bnd fun y => if (prm π (x.1 ++ y.1)).length = n then (F (prm π (x.1 ++ y.1)) y.2.2).mpd fun z => (z.1, y.2.1, z.2) else none := nrfl rfl
theorem prm_0 {α : Type} {x : List α} : prm [] x = [] := nrfl rfl
end

/-! ## texts in order -/
def gLeE : D → D → Option D
  | .str a, .str b => some (.bl (!decide (b.cps.toList < a.cps.toList)))
  | d, e => gLe d e
theorem x_leE {X : Cx} : OpX X (compareOp .LtE) gLeE := by
  obtain ⟨r, h1, h2⟩ := x_le (X := X)
  refine ⟨_, op_le_str.or h1, fun S H x y d e z Q sh rx ry eg q => ?_⟩
  unfold gLeE at eg
  split at eg
  · cases eg
    cases rx
    cases ry
    exact .inl ⟨_, _, rfl, rfl, q _ S H (Grow.refl sh) (.bl _)⟩
  · exact .inr (h2 S H x y d e z Q sh rx ry eg q)

/-! ## a dict's keys: asked, sorted -/
def strKeys : List Key → Option (List Str)
  | [] => some []
  | .inr i :: r => (strKeys r).map (i :: ·)
  | _ => none
theorem strKeys_map : ∀ {ks : List Key} {is : List Str}, strKeys ks = some is → ks = is.map Sum.inr
  | [], is, h => by cases h; rfl
  | .inr i :: r, is, h => by
    unfold strKeys at h
    cases q : strKeys r with
    | none => rw [q] at h; cases h
    | some js =>
      rw [q] at h
      cases h
      rw [strKeys_map q]; rfl
  | .inl x :: r, is, h => by cases h
/-- ys is xs in order -/
def sortS (xs : List Str) : List Str := xs.mergeSort fun a b => !decide (b.cps.toList < a.cps.toList)

theorem sortS_perm (xs : List Str) : (sortS xs).Perm xs := List.mergeSort_perm xs _
theorem sle_trans (a b c : Str) (h : (!decide (b.cps.toList < a.cps.toList)) = true) (h2 : (!decide (c.cps.toList < b.cps.toList)) = true) : (!decide (c.cps.toList < a.cps.toList)) = true := by
  simp only [Bool.not_eq_true', decide_eq_false_iff_not, List.not_lt] at *
  exact List.le_trans h h2
theorem sle_anti (a b : Str) (h : (!decide (b.cps.toList < a.cps.toList)) = true) (h2 : (!decide (a.cps.toList < b.cps.toList)) = true) : a = b := by
  simp only [Bool.not_eq_true', decide_eq_false_iff_not, List.not_lt] at *
  have e := List.le_antisymm h h2
  obtain ⟨a⟩ := a
  obtain ⟨b⟩ := b
  congr
  exact Array.toList_inj.mp e
theorem sortS_sorted (xs : List Str) : (sortS xs).Pairwise fun a b => (!decide (b.cps.toList < a.cps.toList)) = true :=
  List.pairwise_mergeSort (le := fun a b : Str => !decide (b.cps.toList < a.cps.toList)) (fun a b c => sle_trans a b c) (fun a b => by
    rw [Bool.or_eq_true]
    simp only [Bool.not_eq_true', decide_eq_false_iff_not, List.not_lt]
    exact List.le_total _ _) xs
theorem risingS_pw : ∀ {xs : List Str} {x : Str}, risingS x xs = true → (∀ y ∈ xs, (!decide (y.cps.toList < x.cps.toList)) = true) ∧ xs.Pairwise fun a b => (!decide (b.cps.toList < a.cps.toList)) = true
  | [], x, _ => ⟨fun y h => by simp at h, .nil⟩
  | z :: r, x, h => by
    unfold risingS at h
    rw [Bool.and_eq_true, ← le_meets] at h
    obtain ⟨h1, h2⟩ := h
    obtain ⟨q1, q2⟩ := risingS_pw h2
    refine ⟨fun y hy => ?_, List.pairwise_cons.mpr ⟨q1, q2⟩⟩
    rcases List.mem_cons.mp hy with e | hy
    · subst e; exact h1
    · exact sle_trans _ _ _ h1 (q1 y hy)
theorem sortS_uniq {xs ys : List Str} (h : ys.Perm xs) (s : sortedS ys = true) : ys = sortS xs := by
  have hs : ys.Pairwise fun a b => (!decide (b.cps.toList < a.cps.toList)) = true := by
    cases ys with
    | nil => exact .nil
    | cons x r => obtain ⟨q1, q2⟩ := risingS_pw (show risingS x r = true from s); exact List.pairwise_cons.mpr ⟨q1, q2⟩
  exact List.Perm.eq_of_pairwise (le := fun a b : Str => (!decide (b.cps.toList < a.cps.toList)) = true) (fun a b _ _ h1 h2 => sle_anti a b h1 h2) hs (sortS_sorted xs) (h.trans (sortS_perm xs).symm)
def gSortedE : List D → Option D
  | [.dct ks _] => (strKeys ks).bind fun is => if is.length < 64 then some (.lst ((sortS is).map .str)) else none
  | ds => gSorted ds
theorem rpl_strs {K : PySem.W.Frag} {S : Sx} : ∀ (is : List Str), RpL K S (is.map V.str) (is.map D.str)
  | [] => .nil
  | i :: r => .cons (.str i) (rpl_strs r)
section
variable {X : Cx}
theorem callR_or {f : Value} {r r' : List V → Hp → VK → Prop} (h : CallR X f r) (h' : CallR X f r') : CallR X f (fun xs H Q => r xs H Q ∨ r' xs H Q) := by
  intro pins s σ H xs us Q I rv q
  rcases q with q | q
  · exact h pins s σ H xs us Q I rv q
  · exact h' pins s σ H xs us Q I rv q
theorem x_sortedE (hc : X.calm = true) : CallX X (.builtin "sorted") gSortedE := by
  obtain ⟨r, h1, h2⟩ := x_sorted (X := X)
  refine ⟨_, callR_or (call_sortedD hc) h1, fun S H xs ds z Q sh rx eg q => ?_⟩
  unfold gSortedE at eg
  split at eg
  · rename_i ks vs
    obtain ⟨is, e1, eg⟩ := Option.bind_eq_some_iff.mp eg
    split at eg
    case isFalse => cases eg
    rename_i hl
    cases eg
    cases rx with
    | cons rx rr =>
      cases rr
      cases rx with
      | dct h k1 k2 rv =>
        refine .inl ⟨_, _, is, rfl, sh.rd h, by rw [k1]; exact strKeys_map e1, hl, fun ys p hp hs hn => ?_⟩
        have ey := sortS_uniq hp hs
        subst ey
        have gr := Grow.add sh hn (o := .lst ((sortS is).map V.str))
        exact q _ _ _ gr (.lst Sx.add_at (rpl_strs _))
  · exact .inr (h2 S H xs ds z Q sh rx eg q)
end
def gInDn (neg : Bool) : D → D → Option D
  | y, .dct ks ds => (keyD y).map fun z => .bl (neg != (lkD ks ds z).isSome)
  | _, _ => none
section
variable {X : Cx} {a b : Expr} {fa fb : E} {pos : Pos}
theorem tev_din {K : PySem.W.Frag} {σ : L2.St} {H : Hp} {Q : VK} (neg : Bool) (h : TEv K (eOp (gInDn neg) fa fb) σ H Q) :
    TEv K fa σ H fun y H1 => TEv K fb σ H1 fun x H2 => ∃ a v, x = .ref a ∧ DGet H2 a y v ∧ Q (.bl (neg != v.isSome)) H2 := by
  obtain ⟨S, F, ρ, dk, d, ρ', dk', R, e, q⟩ := h
  unfold eOp at e
  obtain ⟨⟨dy, ρ1, k1⟩, e1, e⟩ := Option.bind_eq_some_iff.mp e
  obtain ⟨⟨dx, ρ2, k2⟩, e2, e⟩ := Option.bind_eq_some_iff.mp e
  obtain ⟨z, e3, e⟩ := Option.map_eq_some_iff.mp e
  cases e
  refine ⟨S, F, ρ, dk, dy, ρ1, k1, R, e1, fun y H1 S1 l1 R1 ry => ⟨S1, F, ρ1, k1, dx, _, _, R1, e2, fun x H2 S2 l2 R2 rx => ?_⟩⟩
  replace e3 : gInDn neg dy dx = some _ := e3
  unfold gInDn at e3
  split at e3
  case h_2 => cases e3
  obtain ⟨key, hk, e3⟩ := Option.map_eq_some_iff.mp e3
  subst e3
  cases rx with
  | dct hh h1 h2 r =>
    subst h1 h2
    refine ⟨_, _, rfl, .inl ⟨_, key, R2.sh.rd hh, key_of_rp (ry.mono l2) hk, rfl⟩, ?_⟩
    rw [← lk_is r]
    exact q _ _ S2 (l1.trans l2) R2 (.bl _)
theorem d_din (hu : X.A.units + 1 < cLine) (ha : PE X a (TEv X.K fa)) (hb : PE X b (TEv X.K fb)) (hm : behindInMarks .In b = false := by kernel_rfl!) : PE X (.Compare a [.In] [b] pos) (TEv X.K (eOp (gInDn false) fa fb)) :=
  (pe_cmp (pc_din hu ha hb) hm).imp fun σ H Q h => by
    have h := tev_din false h
    obtain ⟨S, F, ρ, dk, d, ρ', dk', R, e, q⟩ := h
    refine ⟨S, F, ρ, dk, d, ρ', dk', R, e, fun v H1 S1 l1 R1 rv => ?_⟩
    obtain ⟨S2, F2, ρ2, dk2, d2, ρ2', dk2', R2, e2, q2⟩ := q v H1 S1 l1 R1 rv
    refine ⟨S2, F2, ρ2, dk2, d2, ρ2', dk2', R2, e2, fun v2 H2 S2' l2 R2' rv2 => ?_⟩
    obtain ⟨p, u, e, g, qq⟩ := q2 v2 H2 S2' l2 R2' rv2
    exact ⟨p, u, e, g, by simpa using qq⟩
theorem tev_dinI {σ : L2.St} {H : Hp} {Q : VK} (h : TEv X.K (eOp (gInDn false) fa fb) σ H Q) : tDIn (TEv X.K fa) (TEv X.K fb) σ H Q := by
  have h := tev_din false h
  obtain ⟨S, F, ρ, dk, d, ρ', dk', R, e, q⟩ := h
  refine ⟨S, F, ρ, dk, d, ρ', dk', R, e, fun v H1 S1 l1 R1 rv => ?_⟩
  obtain ⟨S2, F2, ρ2, dk2, d2, ρ2', dk2', R2, e2, q2⟩ := q v H1 S1 l1 R1 rv
  refine ⟨S2, F2, ρ2, dk2, d2, ρ2', dk2', R2, e2, fun v2 H2 S2' l2 R2' rv2 => ?_⟩
  obtain ⟨p, u, e, g, qq⟩ := q2 v2 H2 S2' l2 R2' rv2
  exact ⟨p, u, e, g, by simpa using qq⟩
theorem tev_dinNI {σ : L2.St} {H : Hp} {Q : VK} (h : TEv X.K (eOp (gInDn true) fa fb) σ H Q) : tDNotIn (TEv X.K fa) (TEv X.K fb) σ H Q := by
  have h := tev_din true h
  obtain ⟨S, F, ρ, dk, d, ρ', dk', R, e, q⟩ := h
  refine ⟨S, F, ρ, dk, d, ρ', dk', R, e, fun v H1 S1 l1 R1 rv => ?_⟩
  obtain ⟨S2, F2, ρ2, dk2, d2, ρ2', dk2', R2, e2, q2⟩ := q v H1 S1 l1 R1 rv
  refine ⟨S2, F2, ρ2, dk2, d2, ρ2', dk2', R2, e2, fun v2 H2 S2' l2 R2' rv2 => ?_⟩
  obtain ⟨p, u, e, g, qq⟩ := q2 v2 H2 S2' l2 R2' rv2
  exact ⟨p, u, e, g, by simpa using qq⟩
theorem q_din (hu : X.A.units + 1 < cLine) (ha : PE X a (TEv X.K fa)) (hb : PE X b (TEv X.K fb)) (hm : behindInMarks .In b = false := by kernel_rfl!) : PT X (.Compare a [.In] [b] pos) (TTv X.K (eOp (gInDn false) fa fb)) :=
  (pt_cmp (pc_din hu ha hb) hm).imp fun σ H Q h => tev_dinI (ttv_val h)
theorem q_dinN (hu : X.A.units + 1 < cLine) (ha : PE X a (TEv X.K fa)) (hb : PE X b (TEv X.K fb)) (hm : behindInMarks .NotIn b = false := by kernel_rfl!) : PT X (.Compare a [.NotIn] [b] pos) (TTv X.K (eOp (gInDn true) fa fb)) :=
  (pt_cmp (pc_dnotin hu ha hb) hm).imp fun σ H Q h => tev_dinNI (ttv_val h)
theorem q_oin {i : Nat} {x : Str} {p1 : Pos} (hu : X.A.units + 1 < cLine) (hN : X.N[i]? = some x) (hv : Vis X.env.scope x) (he : PE X a (TEv X.K fa)) (hm : behindInMarks .In (.Name x p1) = false := by kernel_rfl!) (hd : (x == ("__debug__" : Str)) = false := by decide) (hcd : (x == ("__classdict__" : Str)) = false := by decide) :
    PT X (.Compare a [.In] [.Name x p1] pos) (TTv X.K (eOIn false fa i)) := (pt_cmp (pc_din hu he (pe_var hN hv hd hcd)) hm).imp fun _ _ _ h => tev_oin (ttv_val h)
theorem q_onotin {i : Nat} {x : Str} {p1 : Pos} (hu : X.A.units + 1 < cLine) (hN : X.N[i]? = some x) (hv : Vis X.env.scope x) (he : PE X a (TEv X.K fa)) (hm : behindInMarks .NotIn (.Name x p1) = false := by kernel_rfl!) (hd : (x == ("__debug__" : Str)) = false := by decide) (hcd : (x == ("__classdict__" : Str)) = false := by decide) :
    PT X (.Compare a [.NotIn] [.Name x p1] pos) (TTv X.K (eOIn true fa i)) := (pt_cmp (pc_dnotin hu he (pe_var hN hv hd hcd)) hm).imp fun _ _ _ h => tev_onotin (ttv_val h)
theorem ttv_eq {f g : E} {σ : L2.St} {H : Hp} {Q : Bool → Hp → Prop} (e : ∀ ρ k, g ρ k = f ρ k) (h : TTv X.K f σ H Q) : TTv X.K g σ H Q := by
  obtain ⟨S, F, ρ, dk, b, ρ', dk', R, e1, q⟩ := h
  exact ⟨S, F, ρ, dk, b, ρ', dk', R, (e ρ dk).trans e1, q⟩
theorem q_gtIn {x : Str} {p : Pos} {tab : List (Str × D)} (h : Gt X.K X.w X.mg x tab) (hg : Gl X x) (hb : PE X b (TEv X.K fb)) (hd : (x == ("__debug__" : Str)) = false) (hm : behindInMarks .In (.Name x p) = false := by kernel_rfl!) : PT X (.Compare b [.In] [.Name x p] pos) (TTv X.K (eUn (gTbIn false tab) fb)) := by
  obtain ⟨a, m, T⟩ := h
  refine (q_cmp (x_tabIn T) hb (d_glob hg m (v := .ref a) (d := .obj a) rfl (fun S => .obj a) hd) hm).imp fun σ H Q h => ttv_eq (fun ρ k => ?_) h
  unfold eOp eUn eC
  cases fb ρ k with
  | none => rfl
  | some y =>
    simp only [Option.bind_some]
    congr 1
    unfold gTbIn gTabIn
    cases y.1 <;> simp
theorem q_gtNotIn {x : Str} {p : Pos} {tab : List (Str × D)} (h : Gt X.K X.w X.mg x tab) (hg : Gl X x) (hb : PE X b (TEv X.K fb)) (hd : (x == ("__debug__" : Str)) = false) (hm : behindInMarks .NotIn (.Name x p) = false := by kernel_rfl!) : PT X (.Compare b [.NotIn] [.Name x p] pos) (TTv X.K (eUn (gTbIn true tab) fb)) := by
  obtain ⟨a, m, T⟩ := h
  refine (q_cmp (x_tabNotIn T) hb (d_glob hg m (v := .ref a) (d := .obj a) rfl (fun S => .obj a) hd) hm).imp fun σ H Q h => ttv_eq (fun ρ k => ?_) h
  unfold eOp eUn eC
  cases fb ρ k with
  | none => rfl
  | some y =>
    simp only [Option.bind_some]
    congr 1
    unfold gTbIn gTabIn
    cases y.1 <;> simp
theorem d_dinN (hu : X.A.units + 1 < cLine) (ha : PE X a (TEv X.K fa)) (hb : PE X b (TEv X.K fb)) (hm : behindInMarks .NotIn b = false := by kernel_rfl!) : PE X (.Compare a [.NotIn] [b] pos) (TEv X.K (eOp (gInDn true) fa fb)) :=
  (pe_cmp (pc_dnotin hu ha hb) hm).imp fun σ H Q h => by
    have h := tev_din true h
    obtain ⟨S, F, ρ, dk, d, ρ', dk', R, e, q⟩ := h
    refine ⟨S, F, ρ, dk, d, ρ', dk', R, e, fun v H1 S1 l1 R1 rv => ?_⟩
    obtain ⟨S2, F2, ρ2, dk2, d2, ρ2', dk2', R2, e2, q2⟩ := q v H1 S1 l1 R1 rv
    refine ⟨S2, F2, ρ2, dk2, d2, ρ2', dk2', R2, e2, fun v2 H2 S2' l2 R2' rv2 => ?_⟩
    obtain ⟨p, u, e, g, qq⟩ := q2 v2 H2 S2' l2 R2' rv2
    exact ⟨p, u, e, g, by simpa using qq⟩
end

/-! ## d.update(e) -/
def rUpd : V → List V → Hp → VK → Prop := fun x vs H Q => ∃ (a b : Addr) (kvs more : List (Key × V)), x = .ref a ∧ vs = [.ref b] ∧ a ≠ b ∧ H a = some (.dK kvs) ∧ Rd H b (.dK more) ∧ kvs.length + more.length ≤ sizeLine ∧ Q .non (upd H a (.dK (mergeK kvs more)))
theorem mt_upd {X : Cx} : MtR X "dict.update" rUpd := by
  intro pins s σ H x vs v us Q I rx rv h
  obtain ⟨a, b, kvs, more, ex, ev, hne, e, e2, hl, q⟩ := h
  subst ex ev
  obtain rfl : v = Value.ref a := rx
  obtain ⟨u, rfl, ru⟩ := vals1 rv
  obtain rfl : u = Value.ref b := ru
  obtain ⟨z, hd, ws, rel, dd⟩ := dk_of I.hok e
  obtain ⟨z2, hd2, ws2, rel2, dd2⟩ := dk_rd I.hok e2
  refine call_meetsIn PySem.F.slot_dict_update dd.typeIs PySem.F.entry_dict_update (PySem.F.args_dict_update_2 _ _) (meets_dict_update (mixKind X.prog X.w) a b hne hd2) ⟨ws, ws2, dd, dd2, by rw [← rel.length, ← rel2.length]; exact hl, fun h' dd' _ hs => ?_⟩
  have he : ∃ q, h'.get? a = some q := let ⟨q, _, _, hq, _⟩ := dd'; ⟨q, hq⟩
  have hz : (mergeK kvs more).length ≤ sizeLine := Nat.le_trans (length_mergeK more kvs) hl
  exact ⟨.non, _, d_write (t' := s.toks) I (by rw [e]; exact True.intro) hs he (dk_new hz hd (rel2.merge rel) dd'), rfl, q⟩
def mergeD (ks : List Key) (ds : List D) : List Key → List D → List Key × List D
  | k :: ks', d :: ds' => mergeD (putD ks ds k d).1 (putD ks ds k d).2 ks' ds'
  | _, _ => (ks, ds)
theorem merge_ok {K : PySem.W.Frag} {S : Sx} : ∀ {more kvs : List (Key × V)} {ds es : List D}, RpL K S (kvs.map (·.2)) ds → RpL K S (more.map (·.2)) es →
    (mergeK kvs more).map (·.1) = (mergeD (kvs.map (·.1)) ds (more.map (·.1)) es).1 ∧ RpL K S ((mergeK kvs more).map (·.2)) (mergeD (kvs.map (·.1)) ds (more.map (·.1)) es).2
  | [], kvs, ds, es, r, r' => by cases r'; exact ⟨rfl, r⟩
  | (k, v) :: m, kvs, ds, _, r, .cons (d := d) (ds := es) h t => by
    obtain ⟨q1, q2⟩ := put_ok (z := k) h r
    have ih := merge_ok (more := m) (kvs := putK kvs k v) q2 t
    rw [q1] at ih
    exact ih
def sUpd (i : Nat) (f : E) : SS := fun ρ k => match ρ[i]? with
  | some (.own (.dct _ _)) => (f ρ k).bind fun x => match x.2.1[i]?, x.1 with
    | some (.own (.dct ks ds)), .dct ks' ds' => if ks.length + ks'.length ≤ sizeLine then some (.nx, x.2.1.set i (.own (.dct (mergeD ks ds ks' ds').1 (mergeD ks ds ks' ds').2)), x.2.2) else none
    | _, _ => none
  | _ => none
section
variable {X : Cx} {e : Expr} {f : E} {i : Nat} {x : Str} {p1 apos cpos spos : Pos}
theorem tsv_upd {K : PySem.W.Frag} {σ : L2.St} {H : Hp} {D' : Ends} (h : TSv K W (sUpd i f) D' σ H) :
    tDrop (tBM K "dict" rUpd (tVar i) (tCons (TEv K f) tNil)) D' σ H := by
  obtain ⟨S, F, ρ, dk, o, ρ', dk', R, e, q⟩ := h
  unfold sUpd at e
  split at e
  case h_2 => cases e
  rename_i h0
  obtain ⟨⟨dx, ρ1, k1⟩, e1, e⟩ := Option.bind_eq_some_iff.mp e
  obtain ⟨p, kv0, hp, hH0, _⟩ := own_dct R h0
  refine ⟨.ref p, hp, .inr (.inr (.inl ⟨rfl, .inl ⟨_, hH0⟩⟩)), S, F, ρ, dk, dx, ρ1, k1, R, e1, fun v H1 S1 l1 R1 rv => ?_⟩
  dsimp only at e
  split at e
  case h_2 => cases e
  rename_i ks ds ks' ds' h1
  split at e
  case isFalse => cases e
  rename_i hl
  cases e
  obtain ⟨p', kvs, hp', hH, hks, rr⟩ := own_dct R1 h1
  rw [hp] at hp'; cases hp'
  subst hks
  cases rv with
  | dct hh g1 g2 r =>
    subst g1 g2
    rename_i b more
    have hn : S1.hp p = none := by
      obtain ⟨p2, z1, z2, z3, z4⟩ := R1.env i _ h1
      rw [hp] at z1; cases z1
      exact z3
    have hne : p ≠ b := fun z => by
      subst z
      rcases hh with hh | ⟨o, hh⟩ <;> rw [hn] at hh <;> cases hh
    obtain ⟨q1, q2⟩ := merge_ok rr r
    exact ⟨p, b, kvs, more, rfl, rfl, hne, hH, R1.sh.rd hh, by simpa using hl, q _ _ S1 l1 (R1.turnOwn h1 hp ⟨_, upd_same, q1, q2⟩)⟩
theorem s_upd (hN : X.N[i]? = some x) (hv : Vis X.env.scope x) (he : PE X e (TEv X.K f)) (hd : (x == ("__debug__" : Str)) = false := by decide) (hcd : (x == ("__classdict__" : Str)) = false := by decide)
    (hsw : swapsWith (.Call (.Attribute (.Name x p1) "update" apos) [e] [] cpos) none spos.line X.env = pure false := by kernel_rfl!) (hbase : attributeBase (.Name x p1) "update" X.env (eval (.Name x p1) X.env) = eval (.Name x p1) X.env := by kernel_rfl!)
    (hfew : ((backTo cpos (starEach [e] X.env)).all (fun x => !x.1) && (backToKw cpos (keywordEach [] X.env)).all (fun x => x.1.isSome) && decide ([e].length + ([] : List Keyword).length + (if ([] : List Keyword).isEmpty then 0 else 1) < 30)) = true := by kernel_rfl!)
    (hline : (apos.endLine == cpos.line) = true := by kernel_rfl!) (hs : starEach [e] X.env = (false, eval e X.env) :: starEach [] X.env := by kernel_rfl!) (hpl : (backTo cpos (starEach [] X.env)).any (·.1) = false := by kernel_rfl!) :
    PS X (.Expr (.Call (.Attribute (.Name x p1) "update" apos) [e] [] cpos) spos) (TSv X.K W (sUpd i f)) :=
  (ps_expr (pe_bm PySem.F.plainAttrs_dict PySem.F.slot_dict_update PySem.F.type_dict_update mt_upd (pe_var hN hv hd hcd) (pa_cons he pa_nil hs) hbase hfew hline hs hpl) hsw).imp fun D' σ H h => tsv_upd h
end
end WS
namespace WS
open PySem PySem.Spec PyProof.Rows L2

/-! ## what laws share -/
mutual
def plain : D → Bool
  | .non | .bl _ | .int _ | .str _ => true
  | .tup xs | .lst xs => plains xs
  | .dct ks vs => ks.isEmpty && vs.isEmpty
  | _ => false
def plains : List D → Bool
  | [] => true
  | x :: r => plain x && plains r
end
theorem plains_mem {l : List D} (h : plains l = true) : ∀ d ∈ l, plain d = true := by
  induction l with
  | nil => intro d hd; simp at hd
  | cons x r ih =>
    unfold plains at h
    rw [Bool.and_eq_true] at h
    intro d hd
    rcases List.mem_cons.mp hd with e | hd
    · subst e; exact h.1
    · exact ih h.2 d hd
theorem lookup_mem {α : Type} {l : List (Str × α)} {s : Str} {x : α} (h : l.lookup s = some x) : (s, x) ∈ l := by
  induction l with
  | nil => cases h
  | cons p r ih =>
    rw [List.lookup_cons] at h
    cases e : s == p.1 with
    | true =>
      rw [e] at h
      cases h
      have := eq_of_beq e
      subst this
      simp
    | false => rw [e] at h; exact List.mem_cons_of_mem _ (ih h)
/-- the deck -/
def DkOk (n : Nat) (k : Dk) : Prop := ∃ cells at_ sum, k = some (cells, at_, sum) ∧ cells.length ≤ 63 ∧ 0 ≤ at_ ∧ at_ ≤ (n : Int)
theorem DkOk.mono {n m : Nat} {k : Dk} (h : DkOk n k) (l : n ≤ m) : DkOk m k := by
  obtain ⟨c, a, s, e, h1, h2, h3⟩ := h
  exact ⟨c, a, s, e, h1, h2, by omega⟩
theorem draw_ok {n : Nat} {k : Dk} (h : DkOk n k) (m : Int) (hm : 0 < m ∧ m < 1073741824) (hn : n < 1000000000000) : ∃ i k', F_draw [.deck, .int m] k = some (.int i, k') ∧ 0 ≤ i ∧ i < m ∧ DkOk (n + 1) k' := by
  obtain ⟨c, a, s, rfl, h1, h2, h3⟩ := h
  have hc : 0 < m ∧ m < 1073741824 ∧ 0 ≤ a ∧ a < 2 ^ 62 ∧ c.length ≤ 1000 := ⟨hm.1, hm.2, h2, by omega, by omega⟩
  have fig : ∀ x y, 0 ≤ figure x y m ∧ figure x y m < m := fun x y => by
    unfold figure
    exact ⟨Int.emod_nonneg _ (by omega), Int.emod_lt_of_pos _ hm.1⟩
  cases c with
  | nil =>
    refine ⟨figure (s + (a + 1)) (a + 1) m, some ([], a + 1, s), ?_, (fig _ _).1, (fig _ _).2, [], a + 1, s, rfl, by simp, by omega, by omega⟩
    show (if 0 < m ∧ m < 1073741824 ∧ 0 ≤ a ∧ a < 2 ^ 62 ∧ ([] : List Int).length ≤ 1000 then _ else _) = _
    rw [if_pos hc]
  | cons x r =>
    have hf : F_draw [.deck, .int m] (some (x :: r, a, s)) = if 10 ^ 18 ≤ x then some (.int (x % m), some (x / m :: r, a + 1, s)) else some (.int (figure x (a + 1) m), some (r, a + 1, s)) := by
      show (if 0 < m ∧ m < 1073741824 ∧ 0 ≤ a ∧ a < 2 ^ 62 ∧ (x :: r).length ≤ 1000 then _ else _) = _
      rw [if_pos hc]
    rw [hf]
    simp only [List.length_cons] at h1
    split
    · exact ⟨_, _, rfl, Int.emod_nonneg _ (by omega), Int.emod_lt_of_pos _ hm.1, _, _, _, rfl, by simp; omega, by omega, by omega⟩
    · exact ⟨_, _, rfl, (fig _ _).1, (fig _ _).2, _, _, _, rfl, by omega, by omega, by omega⟩
theorem pick_at {xs : List D} {P : D → Prop} (h : ∀ d ∈ xs, P d) {i : Int} (h0 : 0 ≤ i) (h1 : i < xs.length) : ∃ d, gIx (.lst xs) (.int i) = some d ∧ P d := by
  have hi : i.toNat < xs.length := by omega
  refine ⟨xs[i.toNat], ?_, h _ (List.getElem_mem hi)⟩
  have := ix_lst (xs := xs) (n := i.toNat)
  rw [Int.toNat_of_nonneg h0] at this
  rw [this, List.getElem?_eq_getElem hi]
mutual
theorem plain_lf {M : Nat} : ∀ {d : D}, lf M d = true → plain d = true
  | .non, _ => rfl
  | .bl _, _ => rfl
  | .int i, e => rfl
  | .str x, e => rfl
  | .tup xs, e => by simp only [lf] at e; simp only [plain]; exact plains_lf e
  | .lst xs, e => by simp only [lf] at e; simp only [plain]; exact plains_lf e
  | .dct ks vs, e => by simp only [lf] at e; simp only [plain]; exact e
  | .rdl _, e => by simp only [lf] at e; cases e
  | .ins _ _ _, e => by simp only [lf] at e; cases e
  | .ty _, e => by simp only [lf] at e; cases e
  | .obj _, e => by simp only [lf] at e; cases e
  | .deck, e => by simp only [lf] at e; cases e
theorem plains_lf {M : Nat} : ∀ {l : List D}, lfs M l = true → plains l = true
  | [], _ => rfl
  | x :: r, e => by
    simp only [lfs, Bool.and_eq_true] at e
    simp only [plains, Bool.and_eq_true]
    exact ⟨plain_lf e.1, plains_lf e.2⟩
end
/-- a thing that may be asked about -/
structure Ask (d : D) : Prop where
  l : ∃ M, lf M d = true ∧ M ≤ 10 ^ 55
  w : wt d ≤ 9000
  p : dpt d ≤ 50
theorem Ask.tup {d : D} (h : Ask d) : ∀ xs, d = .tup xs → xs.length ≤ 9000 := fun xs e => by
  subst e
  exact Nat.le_trans (wts_len xs) h.w
theorem small_line {n : Nat} (h : n ≤ 1000) : (n < sizeLine) = True := eq_true (by rw [sizeLine_eq]; omega)
def askB (d : D) : Bool := lf (10 ^ 40) d && decide (wt d ≤ 9000) && decide (dpt d ≤ 50)
theorem ask_of {d : D} (h : askB d = true) : Ask d := by
  unfold askB at h
  simp only [Bool.and_eq_true, decide_eq_true_eq] at h
  exact ⟨⟨_, h.1.1, by decide⟩, h.1.2, h.2⟩

section
variable {i j : Int} {a b : Str}
theorem r_leI : gLeE (.int i) (.int j) = some (.bl (decide (i ≤ j))) := nrfl rfl
theorem r_leS : gLeE (.str a) (.str b) = some (.bl (!decide (b.cps.toList < a.cps.toList))) := nrfl rfl
end
theorem ap_disp {ks : List Key} {fs : EL} {ρ : List Sl} {k : Dk} : eDisp ks fs ρ k = (fs ρ k).bnd fun x => if x.1.length = ks.length then some (.dct ks x.1, x.2.1, x.2.2) else none := nrfl rfl
def dctD : D → Option (List Key × List D)
  | .dct ks ds => some (ks, ds)
  | _ => none
theorem ap_sUpd {i : Nat} {f : E} {ρ : List Sl} {k : Dk} : sUpd i f ρ k = (ownD ρ[i]?).bnd fun _ => (f ρ k).bnd fun x => (ownD x.2.1[i]?).bnd fun kd => (dctD x.1).bnd fun e => if kd.1.length + e.1.length ≤ sizeLine then some (.nx, x.2.1.set i (.own (.dct (mergeD kd.1 kd.2 e.1 e.2).1 (mergeD kd.1 kd.2 e.1 e.2).2)), x.2.2) else none := by
  have key : ∀ x : D × List Sl × Dk, (match x.2.1[i]?, x.1 with
    | some (.own (.dct ks ds)), .dct ks' ds' => if ks.length + ks'.length ≤ sizeLine then some (Out.nx, x.2.1.set i (.own (.dct (mergeD ks ds ks' ds').1 (mergeD ks ds ks' ds').2)), x.2.2) else none
    | _, _ => none) = (ownD x.2.1[i]?).bnd fun kd => (dctD x.1).bnd fun e => if kd.1.length + e.1.length ≤ sizeLine then some (.nx, x.2.1.set i (.own (.dct (mergeD kd.1 kd.2 e.1 e.2).1 (mergeD kd.1 kd.2 e.1 e.2).2)), x.2.2) else none := fun x => by
    obtain ⟨d, ρ', k'⟩ := x
    unfold ownD dctD
    cases hρ : ρ'[i]? with
    | none => cases d <;> rfl
    | some s =>
      cases s with
      | no => cases d <;> rfl
      | val c => cases d <;> rfl
      | own c => cases c <;> cases d <;> rfl
  unfold sUpd
  cases hρ : ρ[i]? with
  | none => rfl
  | some s =>
    cases s with
    | no => rfl
    | val c => rfl
    | own c => cases c <;> first | rfl | exact congrArg ((f ρ k).bind) (funext key)
end WS
local macro_rules | `(tactic| simp! [$ts,*]) => `(tactic| simp -implicitDefEqProofs only [WS.ap_iSrc, WS.sr_l, WS.sr_t, WS.sr_s, WS.ap_callK, WS.prm_0, WS.r_leI, WS.r_leS, WS.ap_sUpd, WS.ap_disp, WS.ap_run, WS.ap_C, WS.ap_Op, WS.ap_Un, WS.ap_nil, WS.ap_cons, WS.ap_App, WS.ap_And, WS.ap_Or, WS.ap_Not, WS.ap_Not', WS.ap_NotB, WS.ap_If, WS.ap_sNil, WS.ap_sSeq, WS.ap_sRet, WS.ap_sDrop, WS.ap_sIf, WS.ap_sAsg, WS.ap_gSet, WS.ap_call, WS.ap_chain, WS.ap_pair, WS.wp_nil, WS.wp_cons, WS.ap_comp, WS.ap_for, WS.ap_iApp, WS.ap_iSeq, WS.sq_lst, WS.sq_tup, WS.it0, WS.it1, WS.it2, WS.it3, WS.il0, WS.il1, WS.il2, WS.il3, WS.fo_nx, WS.fo_ct, WS.fo_bk, WS.fo_rt, WS.bm_t, WS.bm_f, WS.om_nx, WS.om_rt, WS.om_bk, WS.om_ct, WS.fin_nx, WS.fin_rt, WS.bnd_some, WS.bnd_none, WS.mpd_some, WS.mpd_none, Option.bind_some, Option.map_some, Option.bind_none, Option.map_none, List.length_cons, List.length_nil, Nat.zero_add, Nat.reduceAdd, reduceIte, Nat.reduceEqDiff, Nat.reduceLeDiff, WS.osm_int, WS.ap_oNone, WS.ap_oSome, WS.ap_Sl, WS.ap_app, WS.ap_ext, WS.ap_ownL, WS.ow_l, WS.ow_d, WS.ls_l, WS.sl_to1, WS.sl_from1, WS.r_rev, WS.r_lstS, WS.r_tupS, WS.isi_non_int, WS.isi_non_bool, WS.isi_non_str, WS.isi_non_tuple, WS.isi_non_list, WS.isi_non_dict, WS.isi_bl_int, WS.isi_bl_bool, WS.isi_bl_str, WS.isi_bl_tuple, WS.isi_bl_list, WS.isi_bl_dict, WS.isi_int_int, WS.isi_int_bool, WS.isi_int_str, WS.isi_int_tuple, WS.isi_int_list, WS.isi_int_dict, WS.isi_str_int, WS.isi_str_bool, WS.isi_str_str, WS.isi_str_tuple, WS.isi_str_list, WS.isi_str_dict, WS.isi_tup_int, WS.isi_tup_bool, WS.isi_tup_str, WS.isi_tup_tuple, WS.isi_tup_list, WS.isi_tup_dict, WS.isi_lst_int, WS.isi_lst_bool, WS.isi_lst_str, WS.isi_lst_tuple, WS.isi_lst_list, WS.isi_lst_dict, WS.isi_dct_int, WS.isi_dct_bool, WS.isi_dct_str, WS.isi_dct_tuple, WS.isi_dct_list, WS.isi_dct_dict, WS.r_lt, WS.r_le, WS.r_gt, WS.r_ge, WS.r_add, WS.r_addIB, WS.r_addBI, WS.r_sub, WS.r_subIB, WS.r_subBI, WS.r_neg, WS.r_eqI, WS.r_neI, WS.r_eqB, WS.r_neB, WS.r_eqBI, WS.r_eqS, WS.r_neS, WS.r_eqT0, WS.r_neT0, WS.r_eqL0, WS.r_neL0, WS.r_isB, WS.r_isnB, WS.r_isN, WS.r_isnN, WS.r_lenT, WS.r_lenL, WS.r_min, WS.r_intI, WS.r_intB, WS.r_tupL, WS.r_lstT, WS.r_lstL, Bool.not_true, Bool.not_false, Bool.not_not, decide_true, decide_false, WS.bm_b, decide_eq_true_eq, Bool.not_eq_true', decide_eq_false_iff_not, Bool.false_eq_true, if_true, if_false, WS.ap_ownD0, WS.kd_i, WS.kd_s, WS.ap_put, WS.ap_oget, WS.ap_oin, WS.ap_osort, Int.cast_ofNat_Int, eq_self, Int.reduceEq, Int.reduceLT, Int.reduceLE, not_true_eq_false, not_false_eq_true, Bool.true_and, Bool.false_and, WS.st0_c, WS.st0_n, WS.st0_0, WS.vv_0, WS.vo_0, WS.ix_0, WS.sx_0, WS.vv_1, WS.vo_1, WS.ix_1, WS.sx_1, WS.vv_2, WS.vo_2, WS.ix_2, WS.sx_2, WS.vv_3, WS.vo_3, WS.ix_3, WS.sx_3, WS.vv_4, WS.vo_4, WS.ix_4, WS.sx_4, WS.vv_5, WS.vo_5, WS.ix_5, WS.sx_5, WS.vv_6, WS.vo_6, WS.ix_6, WS.sx_6, WS.vv_7, WS.vo_7, WS.ix_7, WS.sx_7, WS.vv_8, WS.vo_8, WS.ix_8, WS.sx_8, WS.vv_9, WS.vo_9, WS.ix_9, WS.sx_9, WS.vv_10, WS.vo_10, WS.ix_10, WS.sx_10, WS.vv_11, WS.vo_11, WS.ix_11, WS.sx_11, WS.vv_12, WS.vo_12, WS.ix_12, WS.sx_12, WS.vv_13, WS.vo_13, WS.ix_13, WS.sx_13, WS.vv_14, WS.vo_14, WS.ix_14, WS.sx_14, WS.vv_15, WS.vo_15, WS.ix_15, WS.sx_15, WS.vv_16, WS.vo_16, WS.ix_16, WS.sx_16, WS.vv_17, WS.vo_17, WS.ix_17, WS.sx_17, WS.vv_18, WS.vo_18, WS.ix_18, WS.sx_18, WS.vv_19, WS.vo_19, WS.ix_19, WS.sx_19, WS.vv_20, WS.vo_20, WS.ix_20, WS.sx_20, WS.vv_21, WS.vo_21, WS.ix_21, WS.sx_21, WS.vv_22, WS.vo_22, WS.ix_22, WS.sx_22, WS.vv_23, WS.vo_23, WS.ix_23, WS.sx_23, WS.vv_24, WS.vo_24, WS.ix_24, WS.sx_24, $ts,*])
namespace WS
open PySem PySem.Spec PyProof.Rows L2

/-! ## two measures: the longest part, the bulk -/
mutual
def mx : D → Nat
  | .str x => x.length
  | .tup xs | .lst xs => max xs.length (mxs xs)
  | _ => 0
def mxs : List D → Nat
  | [] => 0
  | x :: r => max (mx x) (mxs r)
end
mutual
def bk : D → Nat
  | .str x => x.length
  | .tup xs | .lst xs => bks xs
  | _ => 0
def bks : List D → Nat
  | [] => 0
  | x :: r => bk x + 1 + bks r
end
theorem mxs_le {l : List D} {n : Nat} : mxs l ≤ n ↔ ∀ d ∈ l, mx d ≤ n := by
  induction l with
  | nil => simp [mxs]
  | cons x r ih => simp [mxs, Nat.max_le, ih]
theorem mxs_mem {l : List D} {d : D} (h : d ∈ l) : mx d ≤ mxs l := mxs_le.mp (Nat.le_refl _) d h
theorem mx_tup {xs : List D} {n : Nat} : mx (.tup xs) ≤ n ↔ xs.length ≤ n ∧ ∀ d ∈ xs, mx d ≤ n := by
  simp only [mx, Nat.max_le, mxs_le]
theorem mx_lst {xs : List D} {n : Nat} : mx (.lst xs) ≤ n ↔ xs.length ≤ n ∧ ∀ d ∈ xs, mx d ≤ n := by
  simp only [mx, Nat.max_le, mxs_le]
theorem bks_len : ∀ l : List D, l.length ≤ bks l
  | [] => Nat.le_refl _
  | x :: r => by have := bks_len r; simp only [List.length_cons, bks]; omega
theorem bks_app : ∀ l r : List D, bks (l ++ r) = bks l + bks r
  | [], r => by simp [bks]
  | x :: l, r => by simp only [List.cons_append, bks, bks_app l r]; omega
theorem bks_mem : ∀ {l : List D} {x : D}, x ∈ l → bk x + 1 ≤ bks l
  | y :: r, x, h => by
    simp only [bks]
    rcases List.mem_cons.mp h with e | h
    · subst e; omega
    · have := bks_mem h; omega
theorem bks_take (n : Nat) (l : List D) : bks (l.take n) ≤ bks l := by
  have := bks_app (l.take n) (l.drop n)
  rw [List.take_append_drop] at this; omega
theorem bks_drop (n : Nat) (l : List D) : bks (l.drop n) ≤ bks l := by
  have := bks_app (l.take n) (l.drop n)
  rw [List.take_append_drop] at this; omega
theorem bks_rev : ∀ l : List D, bks l.reverse = bks l
  | [] => rfl
  | x :: r => by rw [List.reverse_cons, bks_app, bks_rev r]; simp only [bks]; omega
theorem bks_le {l : List D} {n : Nat} (h : ∀ d ∈ l, bk d ≤ n) : bks l ≤ (n + 1) * l.length := by
  induction l with
  | nil => simp [bks]
  | cons x r ih =>
    have h1 := h x (by simp)
    have h2 := ih fun d hd => h d (by simp [hd])
    have : (n + 1) * (r.length + 1) = (n + 1) * r.length + (n + 1) := Nat.mul_succ _ _
    simp only [bks, List.length_cons]
    omega

mutual
theorem toR_bk {M : Nat} (hM : M ≤ 10 ^ 55) : ∀ {d : D}, lf M d = true → ∀ p, toR d = some p → p.bulk ≤ bk d
  | .non, _, p, e => by simp only [toR, Option.some.injEq] at e; subst e; exact Nat.le_refl _
  | .bl b, _, p, e => by simp only [toR, Option.some.injEq] at e; subst e; exact Nat.le_refl _
  | .int i, _, p, e => by simp only [toR, Option.some.injEq] at e; subst e; exact Nat.le_refl _
  | .str x, _, p, e => by simp only [toR, Option.some.injEq] at e; subst e; exact Nat.le_refl _
  | .tup xs, h, p, e => by
    have h' : lfs M xs = true := by simpa only [lf] using h
    simp only [toR, Option.map_eq_some_iff] at e
    obtain ⟨q, e1, rfl⟩ := e
    have := toRs_bk hM h' q e1
    simp only [PyData.bulk, bk]; exact this
  | .lst xs, h, p, e => by
    have h' : lfs M xs = true := by simpa only [lf] using h
    simp only [toR, Option.map_eq_some_iff] at e
    obtain ⟨q, e1, rfl⟩ := e
    have := toRs_bk hM h' q e1
    simp only [PyData.bulk, bk]; exact this
  | .dct ks vs, h, p, e => by
    have e' : ks.isEmpty = true ∧ vs.isEmpty = true := by simpa only [lf, Bool.and_eq_true] using h
    have h1 := List.isEmpty_iff.mp e'.1
    have h2 := List.isEmpty_iff.mp e'.2
    subst h1 h2
    have : p = .dict [] := by
      simp only [toR, toRs] at e
      cases e; rfl
    subst this
    exact Nat.le_refl _
  | .rdl _, h, _, _ => by simp only [lf] at h; cases h
  | .ins _ _ _, h, _, _ => by simp only [lf] at h; cases h
  | .ty _, h, _, _ => by simp only [lf] at h; cases h
  | .obj _, h, _, _ => by simp only [lf] at h; cases h
  | .deck, h, _, _ => by simp only [lf] at h; cases h
theorem toRs_bk {M : Nat} (hM : M ≤ 10 ^ 55) : ∀ {l : List D}, lfs M l = true → ∀ ps, toRs l = some ps → PyData.bulkAll ps ≤ bks l
  | [], _, ps, e => by simp only [toRs, Option.some.injEq] at e; subst e; exact Nat.le_refl _
  | x :: r, h, ps, e => by
    have h' : lf M x = true ∧ lfs M r = true := by simpa only [lfs, Bool.and_eq_true] using h
    simp only [toRs, Option.bind_eq_some_iff, Option.map_eq_some_iff] at e
    obtain ⟨p, e1, q, e2, rfl⟩ := e
    have h1 := toR_bk hM h'.1 p e1
    have h2 := toRs_bk hM h'.2 q e2
    simp only [PyData.bulkAll, bks]; omega
end
theorem repr_bk {M : Nat} {d : D} (h : lf M d = true) (hM : M ≤ 10 ^ 55) (hw : bk d ≤ 160000) (hd : dpt d ≤ 60) : ∃ x, gRepr [d] = some (.str x) := by
  obtain ⟨p, h1, h2, h3, h4, h5⟩ := toR_lf hM h
  have h6 := PyData.shown_le_bulk 60 (by omega) p h5
  have h7 := toR_bk hM h p h1
  refine ⟨p.shown, ?_⟩
  show ((toR d).bind fun p => if p.showable = true ∧ p.depth ≤ 60 ∧ p.shown.length ≤ sizeLine then some (D.str p.shown) else none) = _
  rw [h1, Option.bind_some, if_pos ⟨h2, by omega, by rw [sizeLine_eq]; omega⟩]

/-! ### a thing of a bounded size -/
structure Bd (M W P X : Nat) (d : D) : Prop where
  l : lf M d = true
  w : bk d ≤ W
  p : dpt d ≤ P
  x : mx d ≤ X
theorem Bd.mono {M W P X M' W' P' X' : Nat} {d : D} (h : Bd M W P X d) (h1 : M ≤ M') (h2 : W ≤ W') (h3 : P ≤ P') (h4 : X ≤ X') : Bd M' W' P' X' d :=
  ⟨lf_mono h1 h.l, Nat.le_trans h.w h2, Nat.le_trans h.p h3, Nat.le_trans h.x h4⟩
section
variable {M W P X : Nat}
theorem bd_non : Bd M W P X .non := ⟨rfl, Nat.zero_le _, Nat.zero_le _, Nat.zero_le _⟩
theorem bd_bl {b : Bool} : Bd M W P X (.bl b) := ⟨rfl, Nat.zero_le _, Nat.zero_le _, Nat.zero_le _⟩
theorem bd_int {i : Int} (h : i.natAbs ≤ M) : Bd M W P X (.int i) := ⟨by simp only [lf, decide_eq_true_eq]; exact h, Nat.zero_le _, Nat.zero_le _, Nat.zero_le _⟩
theorem bd_str {x : Str} (h : asc x = true) (h1 : x.length ≤ W) (h2 : x.length ≤ X) : Bd M W P X (.str x) := ⟨h, h1, Nat.zero_le _, h2⟩
theorem bd_tup {xs : List D} (h : ∀ d ∈ xs, Bd M W P X d) (hw : bks xs ≤ W) (hx : xs.length ≤ X) : Bd M W (P + 1) X (.tup xs) :=
  ⟨by simp only [lf]; exact lfs_mem.mpr fun d hd => (h d hd).l, hw, by simp only [dpt]; exact Nat.succ_le_succ (dpts_le.mpr fun d hd => (h d hd).p), mx_tup.mpr ⟨hx, fun d hd => (h d hd).x⟩⟩
theorem bd_lst {xs : List D} (h : ∀ d ∈ xs, Bd M W P X d) (hw : bks xs ≤ W) (hx : xs.length ≤ X) : Bd M W (P + 1) X (.lst xs) :=
  ⟨by simp only [lf]; exact lfs_mem.mpr fun d hd => (h d hd).l, hw, by simp only [dpt]; exact Nat.succ_le_succ (dpts_le.mpr fun d hd => (h d hd).p), mx_lst.mpr ⟨hx, fun d hd => (h d hd).x⟩⟩
theorem Bd.mem {xs : List D} (h : Bd M W P X (.tup xs)) {d : D} (hd : d ∈ xs) : Bd M W (P - 1) X d :=
  ⟨lfs_mem.mp (by simpa only [lf] using h.l) d hd, by have h1 := bks_mem hd; have h2 := h.w; simp only [bk] at h2; omega,
   by have h1 := dpts_mem hd; have h2 := h.p; simp only [dpt] at h2; omega, (mx_tup.mp h.x).2 d hd⟩
theorem Bd.len {xs : List D} (h : Bd M W P X (.tup xs)) : xs.length ≤ X := (mx_tup.mp h.x).1
theorem Bd.repr {d : D} (h : Bd M W P X d) (hM : M ≤ 10 ^ 55) (hw : W ≤ 160000) (hp : P ≤ 60) : ∃ x, gRepr [d] = some (.str x) :=
  repr_bk h.l hM (Nat.le_trans h.w hw) (Nat.le_trans h.p hp)
end
end WS
namespace WS
open PySem PySem.Spec PyProof.Rows L2

theorem small_lineE {n : Nat} (h : n ≤ 1000) : (n ≤ sizeLine) = True := eq_true (by rw [sizeLine_eq]; omega)
theorem deck_ok (ns : List Int) : ∃ k1, F_deck [.rdl (ns.map D.int)] none = some (.deck, k1) ∧ DkOk 0 k1 := by
  have : intsOf (ns.map D.int) = some ns := by
    induction ns with
    | nil => rfl
    | cons n r ih => show (intsOf (r.map D.int)).map _ = _; rw [ih]; rfl
  refine ⟨some (ns.take 63, 0, (ns.take 63).sum % 2147483629 + 17 * ((ns.take 63).length : Int)), ?_, _, 0, _, rfl, by rw [List.length_take]; omega, by omega, by omega⟩
  show (intsOf (ns.map D.int)).map _ = _
  rw [this]; rfl
/-! ## loops that may end early -/
def stops : Out → Bool
  | .rt _ => true
  | .ex _ _ _ => true
  | _ => false
section
variable {g : Tg} {body : SS} {k : Dk}
theorem for_find (I : Nat → List Sl → Prop) (R : Nat → Option Out) : ∀ (ds : List D) (n : Nat) (ρ : List Sl), I n ρ →
    (∀ i d, ds[i]? = some d → ∀ ρ, I (n + i) ρ → ∃ ρ1 ρ2, g d ρ = some ρ1 ∧ body ρ1 k = some ((R (n + i)).getD .nx, ρ2, k) ∧ (R (n + i) = none → I (n + i + 1) ρ2) ∧ ∀ o, R (n + i) = some o → stops o = true) →
    ∃ ρ', sForGo g body ds ρ k = some (((List.range' n ds.length).findSome? R).getD .nx, ρ', k) ∧ ((List.range' n ds.length).findSome? R = none → I (n + ds.length) ρ')
  | [], n, ρ, hI, _ => ⟨ρ, for_nil, fun _ => hI⟩
  | d :: ds, n, ρ, hI, h => by
    obtain ⟨ρ1, ρ2, e1, e2, e3, e4⟩ := h 0 d rfl ρ hI
    rw [Nat.add_zero] at e2 e3 e4
    rw [for_cons, e1, bnd_some, e2, bnd_some, List.length_cons, List.range'_succ, List.findSome?_cons]
    cases hR : R n with
    | none =>
      obtain ⟨ρ', q1, q2⟩ := for_find I R ds (n + 1) ρ2 (e3 hR) fun i d' hd ρ hI => by
        have := h (i + 1) d' hd ρ (by rw [show n + (i + 1) = n + 1 + i by omega]; exact hI)
        rw [show n + (i + 1) = n + 1 + i by omega] at this
        exact this
      refine ⟨ρ', ?_, fun z => ?_⟩
      · show fo (Out.nx, ρ2, k) _ = _
        rw [fo_nx]; exact q1
      · rw [show n + (ds.length + 1) = n + 1 + ds.length by omega]; exact q2 z
    | some o =>
      have hs := e4 o hR
      refine ⟨ρ2, ?_, fun z => by cases z⟩
      cases o with
      | rt d => exact fo_rt
      | ex C ns vs => rfl
      | _ => cases hs
end
theorem findSome_map {α β γ : Type} (f : α → Option β) (g : β → γ) (l : List α) : l.findSome? (fun x => (f x).map g) = (l.findSome? f).map g := by
  induction l with
  | nil => rfl
  | cons x r ih =>
    rw [List.findSome?_cons, List.findSome?_cons]
    cases f x with
    | none => exact ih
    | some y => rfl
theorem findSome_congr {α β : Type} {f g : α → Option β} {l : List α} (h : ∀ x ∈ l, f x = g x) : l.findSome? f = l.findSome? g := by
  induction l with
  | nil => rfl
  | cons x r ih =>
    rw [List.findSome?_cons, List.findSome?_cons, h x (by simp), ih fun y hy => h y (by simp [hy])]
/-! ## equality -/
mutual
/-- no dicts, no objects -/
def seqy : D → Bool
  | .non | .bl _ | .int _ => true
  | .str x => asc x
  | .tup xs | .lst xs => seqys xs
  | _ => false
def seqys : List D → Bool
  | [] => true
  | x :: r => seqy x && seqys r
end
theorem seqys_mem {l : List D} : seqys l = true ↔ ∀ d ∈ l, seqy d = true := by
  induction l with
  | nil => simp [seqys]
  | cons x r ih => simp [seqys, ih]
mutual
theorem toP_seqy : ∀ {d : D}, seqy d = true → ∃ p, toP d = some p ∧ p.canLay0 = true ∧ p.depth ≤ dpt d
  | .non, _ => ⟨_, rfl, rfl, Nat.zero_le _⟩
  | .bl b, _ => ⟨_, rfl, rfl, Nat.zero_le _⟩
  | .int i, _ => ⟨_, rfl, rfl, Nat.zero_le _⟩
  | .str x, h => ⟨_, rfl, by
      show (x.cps.all fun c => decide (c < 0x110000)) = true
      have h' : asc x = true := by simpa only [seqy] using h
      rw [asc_iff] at h'
      rw [Array.all_eq_true_iff_forall_mem]
      intro c hc
      exact decide_eq_true (Nat.lt_trans (h' c (by simpa using hc)) (by decide)), Nat.zero_le _⟩
  | .tup xs, h => by
    obtain ⟨ps, h1, h2, h3⟩ := toPs_seqy (show seqys xs = true by simpa only [seqy] using h)
    exact ⟨.tuple ps, by simp only [toP, h1, Option.map_some], h2, by simp only [PyData.depth, dpt]; omega⟩
  | .lst xs, h => by
    obtain ⟨ps, h1, h2, h3⟩ := toPs_seqy (show seqys xs = true by simpa only [seqy] using h)
    exact ⟨.list ps, by simp only [toP, h1, Option.map_some], h2, by simp only [PyData.depth, dpt]; omega⟩
  | .rdl _, h => by simp only [seqy] at h; cases h
  | .dct _ _, h => by simp only [seqy] at h; cases h
  | .ins _ _ _, h => by simp only [seqy] at h; cases h
  | .ty _, h => by simp only [seqy] at h; cases h
  | .obj _, h => by simp only [seqy] at h; cases h
  | .deck, h => by simp only [seqy] at h; cases h
theorem toPs_seqy : ∀ {l : List D}, seqys l = true → ∃ ps, toPs l = some ps ∧ PyData.canLayAll0 ps = true ∧ PyData.depthAll ps ≤ dpts l
  | [], _ => ⟨[], rfl, rfl, Nat.zero_le _⟩
  | x :: r, h => by
    have h' : seqy x = true ∧ seqys r = true := by simpa only [seqys, Bool.and_eq_true] using h
    obtain ⟨p, h1, h2, h3⟩ := toP_seqy h'.1
    obtain ⟨ps, q1, q2, q3⟩ := toPs_seqy h'.2
    exact ⟨p :: ps, by simp only [toPs, h1, q1, Option.bind_some, Option.map_some], by simp only [PyData.canLayAll0, h2, q2, Bool.and_self], by simp only [PyData.depthAll, dpts]; omega⟩
end
theorem inP_ok {d : D} {xs : List D} (h1 : seqy d = true) (h2 : seqys xs = true) (p1 : dpt d ≤ 60) (p2 : dpts xs ≤ 60) : ∃ p q, toP d = some p ∧ toPs xs = some q ∧ inP d xs = some (q.any fun z => PyData.eqv z p) := by
  obtain ⟨p, a1, a2, a3⟩ := toP_seqy h1
  obtain ⟨q, b1, b2, b3⟩ := toPs_seqy h2
  have s1 : SeqAt.shaped p = true := by
    show (p.canLay0 && decide (p.depth ≤ 64)) = true
    rw [a2, decide_eq_true (by omega)]; rfl
  have s2 : SeqAt.shaped (.list q) = true := by
    show (PyData.canLayAll0 q && decide (PyData.depthAll q + 1 ≤ 64)) = true
    rw [b2, decide_eq_true (by omega)]; rfl
  refine ⟨p, q, a1, b1, ?_⟩
  unfold inP
  simp only [a1, b1, Option.bind_some, s1, s2, and_self, if_true]
theorem toPs_strs : ∀ l : List Str, toPs (l.map .str) = some (l.map .str)
  | [] => rfl
  | x :: r => by simp only [List.map_cons, toPs, toP, toPs_strs r, Option.bind_some, Option.map_some]
theorem seqys_strs {l : List Str} (h : ∀ x ∈ l, asc x = true) : seqys (l.map .str) = true :=
  seqys_mem.mpr fun d hd => by
    obtain ⟨x, hx, rfl⟩ := List.mem_map.mp hd
    simp only [seqy]; exact h x hx
theorem dpts_strs (l : List Str) : dpts (l.map .str) = 0 := by
  induction l with
  | nil => rfl
  | cons x r ih => simp only [List.map_cons, dpts, dpt, ih]; rfl
theorem in_strs {w : Str} {l : List Str} (hw : asc w = true) (hl : ∀ x ∈ l, asc x = true) : inP (.str w) (l.map .str) = some (l.any fun a => decide (w = a)) := by
  obtain ⟨p, q, e1, e2, e3⟩ := inP_ok (d := .str w) (xs := l.map .str) (by simp only [seqy]; exact hw) (seqys_strs hl) (Nat.zero_le _) (by rw [dpts_strs]; omega)
  rw [e3]
  simp only [toP, Option.some.injEq] at e1
  rw [toPs_strs, Option.some.injEq] at e2
  subst e1 e2
  rw [List.any_map]
  congr 1
  refine List.any_congr rfl ?_
  intro a
  show (a == w) = decide (w = a)
  rw [Bool.eq_iff_iff, beq_iff_eq, decide_eq_true_eq]
  exact ⟨fun h => h.symm, fun h => h.symm⟩
theorem in_tup {w : Str} {l : List Str} (hw : asc w = true) (hl : ∀ x ∈ l, asc x = true) : gIn (.str w) (.tup (l.map .str)) = some (.bl (l.any fun a => decide (w = a))) := by
  show (inP (.str w) (l.map .str)).map (fun b => D.bl (false != b)) = _
  rw [in_strs hw hl, Option.map_some]
  simp
def eqB (d e : D) : Bool := match toP d, toP e with
  | some p, some q => PyData.eqv p q
  | _, _ => false
theorem geq_ok {d e : D} (h1 : seqy d = true) (h2 : seqy e = true) (p1 : dpt d ≤ 60) (p2 : dpt e ≤ 60) : gEq d e = some (.bl (eqB d e)) := by
  obtain ⟨p, a1, a2, a3⟩ := toP_seqy h1
  obtain ⟨q, b1, b2, b3⟩ := toP_seqy h2
  have s1 : SeqAt.shaped p = true := by
    show (p.canLay0 && decide (p.depth ≤ 64)) = true
    rw [a2, decide_eq_true (by omega)]; rfl
  have s2 : SeqAt.shaped q = true := by
    show (q.canLay0 && decide (q.depth ≤ 64)) = true
    rw [b2, decide_eq_true (by omega)]; rfl
  unfold gEq eqD eqB
  simp only [a1, b1, Option.bind_some, s1, s2, and_self, if_true, Option.map_some]
theorem gne_ok {d e : D} (h1 : seqy d = true) (h2 : seqy e = true) (p1 : dpt d ≤ 60) (p2 : dpt e ≤ 60) : gNe d e = some (.bl (!eqB d e)) := by
  have h := geq_ok h1 h2 p1 p2
  unfold gEq at h
  unfold gNe
  cases e' : eqD d e with
  | none => rw [e'] at h; cases h
  | some b => rw [e'] at h; injection h with h; injection h with h; subst h; rfl
theorem eqB_self {d : D} (h : seqy d = true) : eqB d d = true := by
  obtain ⟨p, a1, a2, _⟩ := toP_seqy h
  unfold eqB
  simp only [a1]
  exact SeqAt.eqv_refl p a2
theorem neE_self {xs : List D} (h : seqy (.tup xs) = true) (p : dpt (.tup xs) ≤ 60) : gNeE (.tup xs) (.tup xs) = some (.bl false) := by
  show (if xs = [] ∨ xs = [] then some (D.bl (!(xs.isEmpty && xs.isEmpty))) else gNe (.tup xs) (.tup xs)) = _
  by_cases hx : xs = []
  · subst hx; rfl
  · rw [if_neg (by simpa using hx), gne_ok h h p p, eqB_self h]; rfl
theorem eqE_self {xs : List D} (h : seqy (.tup xs) = true) (p : dpt (.tup xs) ≤ 60) : gEqE (.tup xs) (.tup xs) = some (.bl true) := by
  show (if xs = [] ∨ xs = [] then some (D.bl (xs.isEmpty && xs.isEmpty)) else gEq (.tup xs) (.tup xs)) = _
  by_cases hx : xs = []
  · subst hx; rfl
  · rw [if_neg (by simpa using hx), geq_ok h h p p, eqB_self h]
end WS
namespace WS
open PySem PySem.Spec PyProof.Rows L2

/-! ## expressions that may raise -/
inductive Rs (α : Type) where
  | ok (a : α)
  | ex (C : Str) (ns : List Str) (ds : List D)
abbrev EX := List Sl → Dk → Option (Rs D × List Sl × Dk)
abbrev AX := List Sl → Dk → Option (Rs (List D) × List Sl × Dk)
def TEx (K : PySem.W.Frag) (W : WX) (f : EX) : TE := fun σ H Q => ∃ S F ρ dk r ρ' dk', Rep K σ H S F ρ dk ∧ f ρ dk = some (r, ρ', dk') ∧
  match r with
  | .ok d => ∀ v H' S', Le S S' → Rep K σ H' S' F ρ' dk' → Rp K S' v d → Q v H'
  | .ex C ns ds => ∀ H' S' cls d, Le S S' → Rep K σ H' S' F ρ' dk' → ExRp K S' C ns ds cls d → W cls d σ H'
def TAx (K : PySem.W.Frag) (W : WX) (f : AX) : TA := fun σ H Q => ∃ S F ρ dk r ρ' dk', Rep K σ H S F ρ dk ∧ f ρ dk = some (r, ρ', dk') ∧
  match r with
  | .ok ds => ∀ v H' S', Le S S' → Rep K σ H' S' F ρ' dk' → RpL K S' v ds → Q v H'
  | .ex C ns ds => ∀ H' S' cls d, Le S S' → Rep K σ H' S' F ρ' dk' → ExRp K S' C ns ds cls d → W cls d σ H'
/-- then, unless an exception is in the air -/
def bx {α β : Type} (r : Option (Rs α × List Sl × Dk)) (f : α → List Sl → Dk → Option (Rs β × List Sl × Dk)) (_ : Tg1 f := ⟨⟩) : Option (Rs β × List Sl × Dk) := r.bind fun x => match x.1 with
  | .ok a => f a x.2.1 x.2.2
  | .ex C ns ds => some (.ex C ns ds, x.2.1, x.2.2)
def bxs (r : Option (Rs D × List Sl × Dk)) (f : D → List Sl → Dk → Option (Out × List Sl × Dk)) (_ : Tg1 f := ⟨⟩) : Option (Out × List Sl × Dk) := r.bind fun x => match x.1 with
  | .ok a => f a x.2.1 x.2.2
  | .ex C ns ds => some (.ex C ns ds, x.2.1, x.2.2)
def xE (a : E) : EX := fun ρ k => (a ρ k).bind fun x => some (.ok x.1, x.2.1, x.2.2)
def xA (a : EL) : AX := fun ρ k => (a ρ k).bind fun x => some (.ok x.1, x.2.1, x.2.2)
def xUn (g : D → Option D) (a : EX) : EX := fun ρ k => bx (a ρ k) fun d ρ k => (g d).bind fun z => some (.ok z, ρ, k)
def axCons (a : EX) (b : AX) : AX := fun ρ k => bx (a ρ k) fun d ρ k => bx (b ρ k) fun ds ρ k => some (.ok (d :: ds), ρ, k)
def xApp (g : List D → Option D) (a : AX) : EX := fun ρ k => bx (a ρ k) fun ds ρ k => (g ds).bind fun z => some (.ok z, ρ, k)
/-- where nothing is raised -/
def eOk (a : EX) : E := fun ρ k => (a ρ k).bind fun x => match x.1 with
  | .ok d => some (d, x.2.1, x.2.2)
  | .ex _ _ _ => none
def sAsgX (g : Tg) (e : EX) : SS := fun ρ k => bxs (e ρ k) fun d ρ k => (g d ρ).bind fun ρ' => some (.nx, ρ', k)
def sRetX (e : EX) : SS := fun ρ k => bxs (e ρ k) fun d ρ k => some (.rt d, ρ, k)
def sDropX (e : EX) : SS := fun ρ k => bxs (e ρ k) fun d ρ k => some (.nx, ρ, k)

section
variable {K : PySem.W.Frag} {σ : L2.St} {H : Hp} {Q : VK} {W : WX}
theorem tex_E {f : E} (h : TEx K W (xE f) σ H Q) : TEv K f σ H Q := by
  obtain ⟨S, F, ρ, dk, r, ρ', dk', R, e, q⟩ := h
  unfold xE at e
  obtain ⟨⟨d, ρ1, k1⟩, e1, e⟩ := Option.bind_eq_some_iff.mp e
  cases e
  exact ⟨S, F, ρ, dk, d, _, _, R, e1, q⟩
theorem tax_A {f : EL} {Q : List V → Hp → Prop} (h : TAx K W (xA f) σ H Q) : TAv K f σ H Q := by
  obtain ⟨S, F, ρ, dk, r, ρ', dk', R, e, q⟩ := h
  unfold xA at e
  obtain ⟨⟨d, ρ1, k1⟩, e1, e⟩ := Option.bind_eq_some_iff.mp e
  cases e
  exact ⟨S, F, ρ, dk, d, _, _, R, e1, q⟩
theorem tex_ok {f : EX} (h : TEv K (eOk f) σ H Q) : TEx K W0 f σ H Q := by
  obtain ⟨S, F, ρ, dk, d, ρ', dk', R, e, q⟩ := h
  unfold eOk at e
  obtain ⟨⟨r, ρ1, k1⟩, e1, e⟩ := Option.bind_eq_some_iff.mp e
  cases r with
  | ex C ns ds => cases e
  | ok d => cases e; exact ⟨S, F, ρ, dk, .ok d, _, _, R, e1, q⟩
theorem bx_eq {α β : Type} {r : Option (Rs α × List Sl × Dk)} {f : α → List Sl → Dk → Option (Rs β × List Sl × Dk)} {o : Rs β × List Sl × Dk} (e : bx r f = some o) :
    (∃ a ρ k, r = some (.ok a, ρ, k) ∧ f a ρ k = some o) ∨ ∃ C ns ds ρ k, r = some (.ex C ns ds, ρ, k) ∧ o = (.ex C ns ds, ρ, k) := by
  unfold bx at e
  obtain ⟨⟨x, ρ, k⟩, e1, e⟩ := Option.bind_eq_some_iff.mp e
  cases x with
  | ok a => exact .inl ⟨a, ρ, k, e1, e⟩
  | ex C ns ds => cases e; exact .inr ⟨C, ns, ds, ρ, k, e1, rfl⟩
theorem bxs_eq {r : Option (Rs D × List Sl × Dk)} {f : D → List Sl → Dk → Option (Out × List Sl × Dk)} {o : Out × List Sl × Dk} (e : bxs r f = some o) :
    (∃ a ρ k, r = some (.ok a, ρ, k) ∧ f a ρ k = some o) ∨ ∃ C ns ds ρ k, r = some (.ex C ns ds, ρ, k) ∧ o = (.ex C ns ds, ρ, k) := by
  unfold bxs at e
  obtain ⟨⟨x, ρ, k⟩, e1, e⟩ := Option.bind_eq_some_iff.mp e
  cases x with
  | ok a => exact .inl ⟨a, ρ, k, e1, e⟩
  | ex C ns ds => cases e; exact .inr ⟨C, ns, ds, ρ, k, e1, rfl⟩
theorem tex_un {r : V → Hp → VK → Prop} {g : D → Option D} {f : EX} (hr : UnD K r g) (h : TEx K W (xUn g f) σ H Q) : tUn r (TEx K W f) σ H Q := by
  obtain ⟨S, F, ρ, dk, o, ρ', dk', R, e, q⟩ := h
  unfold xUn at e
  rcases bx_eq e with ⟨d, ρ1, k1, e1, e⟩ | ⟨C, ns, ds, ρ1, k1, e1, e⟩
  · obtain ⟨z, ez, e⟩ := Option.bind_eq_some_iff.mp e
    cases e
    refine ⟨S, F, ρ, dk, .ok d, _, _, R, e1, fun v H1 S1 l1 R1 rv => ?_⟩
    exact hr S1 H1 v d _ Q R1.sh rv ez fun w S' H' gr rw' => q w H' S' (l1.trans gr.le) (R1.grow gr) rw'
  · cases e
    exact ⟨S, F, ρ, dk, .ex C ns ds, _, _, R, e1, q⟩
theorem tax_cons {f : EX} {fs : AX} {Q : List V → Hp → Prop} (h : TAx K W (axCons f fs) σ H Q) : tCons (TEx K W f) (TAx K W fs) σ H Q := by
  obtain ⟨S, F, ρ, dk, o, ρ', dk', R, e, q⟩ := h
  unfold axCons at e
  rcases bx_eq e with ⟨d, ρ1, k1, e1, e⟩ | ⟨C, ns, ds, ρ1, k1, e1, e⟩
  · refine ⟨S, F, ρ, dk, .ok d, ρ1, k1, R, e1, fun v H1 S1 l1 R1 rv => ?_⟩
    rcases bx_eq e with ⟨zs, ρ2, k2, e2, e⟩ | ⟨C, ns, ds, ρ2, k2, e2, e⟩
    · cases e
      exact ⟨S1, F, ρ1, k1, .ok zs, _, _, R1, e2, fun vs H2 S2 l2 R2 rvs => q _ H2 S2 (l1.trans l2) R2 (.cons (rv.mono l2) rvs)⟩
    · cases e
      exact ⟨S1, F, ρ1, k1, .ex C ns ds, _, _, R1, e2, fun H2 S2 cls d l2 R2 x => q H2 S2 cls d (l1.trans l2) R2 x⟩
  · cases e
    exact ⟨S, F, ρ, dk, .ex C ns ds, _, _, R, e1, q⟩
theorem tex_app {t : TA → TE} {r : List V → Hp → VK → Prop} {g : List D → Option D} {f : AX} (ht : ∀ t' σ H Q, t' σ H (fun xs H1 => r xs H1 Q) → t t' σ H Q) (hr : CallD K r g) (h : TEx K W (xApp g f) σ H Q) : t (TAx K W f) σ H Q := by
  obtain ⟨S, F, ρ, dk, o, ρ', dk', R, e, q⟩ := h
  unfold xApp at e
  rcases bx_eq e with ⟨ds, ρ1, k1, e1, e⟩ | ⟨C, ns, ds, ρ1, k1, e1, e⟩
  · obtain ⟨z, ez, e⟩ := Option.bind_eq_some_iff.mp e
    cases e
    refine ht _ σ H Q ⟨S, F, ρ, dk, .ok ds, _, _, R, e1, fun v H1 S1 l1 R1 rv => ?_⟩
    exact hr S1 H1 v ds _ Q R1.sh rv ez fun w S' H' gr rw' => q w H' S' (l1.trans gr.le) (R1.grow gr) rw'
  · cases e
    exact ht _ σ H Q ⟨S, F, ρ, dk, .ex C ns ds, _, _, R, e1, q⟩
theorem tsv_asgX {vs : List Nat} {f : EX} {g : Tg} {D' : Ends} (h : TSv K W (sAsgX g f) D' σ H) : tAsg (TEx K W f) (TGv K vs g) D' σ H := by
  obtain ⟨S, F, ρ, dk, o, ρ', dk', R, e, q⟩ := h
  unfold sAsgX at e
  rcases bxs_eq e with ⟨d, ρ1, k1, e1, e⟩ | ⟨C, ns, ds, ρ1, k1, e1, e⟩
  · obtain ⟨ρ2, eg, e⟩ := Option.bind_eq_some_iff.mp e
    cases e
    exact ⟨S, F, ρ, dk, .ok d, ρ1, _, R, e1, fun v H' S' l R' rv => ⟨S', F, ρ1, _, d, _, R', rv, eg, fun σ2 H2 S2 l2 R2 _ _ => q σ2 H2 S2 (l.trans l2) R2⟩⟩
  · cases e
    exact ⟨S, F, ρ, dk, .ex C ns ds, _, _, R, e1, fun H' S' cls d l R' x => q σ H' S' cls d l R' x⟩
theorem tsv_retX {f : EX} {D' : Ends} (h : TSv K W (sRetX f) D' σ H) : tRet (TEx K W f) D' σ H := by
  obtain ⟨S, F, ρ, dk, o, ρ', dk', R, e, q⟩ := h
  unfold sRetX at e
  rcases bxs_eq e with ⟨d, ρ1, k1, e1, e⟩ | ⟨C, ns, ds, ρ1, k1, e1, e⟩
  · cases e
    exact ⟨S, F, ρ, dk, .ok d, _, _, R, e1, fun v H' S' l R' rv => q v σ H' S' l R' rv⟩
  · cases e
    exact ⟨S, F, ρ, dk, .ex C ns ds, _, _, R, e1, fun H' S' cls d l R' x => q σ H' S' cls d l R' x⟩
theorem tsv_dropX {f : EX} {D' : Ends} (h : TSv K W (sDropX f) D' σ H) : tDrop (TEx K W f) D' σ H := by
  obtain ⟨S, F, ρ, dk, o, ρ', dk', R, e, q⟩ := h
  unfold sDropX at e
  rcases bxs_eq e with ⟨d, ρ1, k1, e1, e⟩ | ⟨C, ns, ds, ρ1, k1, e1, e⟩
  · cases e
    exact ⟨S, F, ρ, dk, .ok d, _, _, R, e1, fun v H' S' l R' rv => q σ H' S' l R'⟩
  · cases e
    exact ⟨S, F, ρ, dk, .ex C ns ds, _, _, R, e1, fun H' S' cls d l R' x => q σ H' S' cls d l R' x⟩
end

section
variable {X : Cx} {e tg : Expr} {es : List Expr} {f : EX} {fe : E} {fs : AX} {fl : EL} {g : Tg} {vs : List Nat} {W : WX} {pos : Pos}
theorem d_xE (h : PE X e (TEv X.K fe)) : PE X e (TEx X.K W (xE fe)) := h.imp fun _ _ _ h => tex_E h
theorem d_xA (h : PA X es (TAv X.K fl)) : PA X es (TAx X.K W (xA fl)) := h.imp fun _ _ _ h => tax_A h
theorem d_axCons (ha : PE X e (TEx X.K W f)) (hr : PA X es (TAx X.K W fs)) (hs : starEach (e :: es) X.env = (false, eval e X.env) :: starEach es X.env := by kernel_rfl!) : PA X (e :: es) (TAx X.K W (axCons f fs)) := (pa_cons ha hr hs).imp fun _ _ _ h => tax_cons h
theorem d_xTup {x1} (h : PA X es (TAx X.K W fs)) : PE X (.Tuple es x1 pos) (TEx X.K W (xApp gTupD fs)) := (pe_tup h).imp fun _ _ _ h =>
  tex_app (t := tTup) (r := fun xs H1 Q => xs.length ≤ sizeLine ∧ ∀ p, H1 p = none → Q (.ref p) (upd H1 p (.tup xs))) (fun _ _ _ _ h => h) (fun S H xs ds z Q sh r e q => by
    unfold gTupD at e
    split at e
    · rename_i hl
      cases e
      exact ⟨by rw [r.length]; exact hl, fun p hp => q _ _ _ (Grow.add sh hp) (.tup (.inl (.inl Sx.add_at)) (r.mono (Grow.add sh hp).le))⟩
    · cases e) h
theorem d_ok (h : PE X e (TEx X.K W0 f)) : PE X e (TEv X.K (eOk f)) := h.imp fun _ _ _ h => tex_ok h
theorem s_asgX (he : PE X e (TEx X.K W f)) (hg : PG X tg (TGv X.K vs g)) (hs : swapsWithSole [tg] e pos.line X.env = pure false := by kernel_rfl!) (hw : swappedStores [tg] e X.env = pure none := by kernel_rfl!) (h1 : (assignEach [tg] X.env).map (·.2) = [assign tg X.env] := by kernel_rfl!) :
    PS X (.Assign [tg] e pos) (TSv X.K W (sAsgX g f)) := (ps_asg he hg hs hw h1).imp fun _ _ _ h => tsv_asgX h
theorem s_retX (h : PE X e (TEx X.K W f)) : PS X (.Return (some e) pos) (TSv X.K W (sRetX f)) := (ps_ret h).imp fun _ _ _ h => tsv_retX h
theorem s_exprX (h : PE X e (TEx X.K W f)) (hs : swapsWith e none pos.line X.env = pure false := by kernel_rfl!) : PS X (.Expr e pos) (TSv X.K W (sDropX f)) := (ps_expr h hs).imp fun _ _ _ h => tsv_dropX h
theorem takes0 : Takes X W0 := fun u s' x => by
  obtain ⟨_, _, _, _, _, _, _, _, _, _, _, _, _, _, _, _, w⟩ := x
  exact w.elim
end

/-! ## defs that may raise -/
abbrev FnX := List D → Dk → Option (Rs D × Dk)
def spX (K : PySem.W.Frag) (n : Nat) (f : FnX) : Sp := fun vs H Q E => vs.length = n ∧ ∃ S F ds dk r dk', Rep K [] H S F [] dk ∧ RpL K S vs ds ∧ f ds dk = some (r, dk') ∧
  match r with
  | .ok d => ∀ v H' S', Le S S' → Rep K [] H' S' F [] dk' → Rp K S' v d → Q v H'
  | .ex C ns es => ∀ H' S' cls d, Le S S' → Rep K [] H' S' F [] dk' → ExRp K S' C ns es cls d → E cls d H'
def finX (o : Out × List Sl × Dk) : Option (Rs D × Dk) := match o.1 with
  | .rt d => some (.ok d, o.2.2)
  | .nx => some (.ok .non, o.2.2)
  | .ex C ns ds => some (.ex C ns ds, o.2.2)
  | _ => none
def runX (n : Nat) (body : SS) : FnX := fun ds k => (body (st0 n ds) k).bind finX
def xCallF (n : Nat) (f : FnX) (a : EL) : EX := fun ρ k => (a ρ k).bind fun x => if x.1.length = n then (f x.1 x.2.2).bind fun y => some (y.1, x.2.1, y.2) else none
section
variable {K : PySem.W.Frag} {σ : L2.St} {H : Hp} {S : Sx} {F : Hp} {ρ : List Sl} {dk : Dk} {W : WX}
theorem tex_callF {n : Nat} {f : FnX} {fs : EL} {Q : VK} (h : TEx K W (xCallF n f fs) σ H Q) : TAv K fs σ H fun vs H1 => spX K n f vs H1 Q (WE W σ) := by
  obtain ⟨S, F, ρ, dk, r, ρ', dk', R, e, q⟩ := h
  unfold xCallF at e
  obtain ⟨⟨ds, ρ1, k1⟩, e1, e⟩ := Option.bind_eq_some_iff.mp e
  split at e
  case isFalse => cases e
  rename_i hn
  obtain ⟨⟨r', k2⟩, e2, e⟩ := Option.bind_eq_some_iff.mp e
  cases e
  refine ⟨S, F, ρ, dk, ds, ρ1, k1, R, e1, fun vs H1 S1 l1 R1 rv => ?_⟩
  refine ⟨by rw [rv.length]; exact hn, S1, _, ds, k1, r', k2, R1.leave, rv, e2, ?_⟩
  cases r' with
  | ok d => exact fun v H2 S2 l2 R2 rv2 => q v H2 S2 (l1.trans l2) (R1.back l2 R2) rv2
  | ex C ns es => exact fun H2 S2 cls d l2 R2 x => q H2 S2 cls d (l1.trans l2) (R1.back l2 R2) x
end
section
variable {P : Program} {w : World} {K : PySem.W.Frag} {mg : Str → Option Value} {base : Heap} {k : Nat} {f : Addr} {fd : FuncData} {ps : List Str}
theorem fnX {x qual : Str} {st : Stmt} {N : List Str} {body : SS} (n : Nat) (hps : ps.length = n) (hN : n ≤ N.length) (Fu : Fun K x qual st f fd) (SC : FnScope N ps (defScope st))
    (hb : ∀ (cdv : Value) (A : Around) (outer : List Env) (s : Shared) (H : Hp) (E : XK) (W : WX), A.guards = some [] → Room k (A.deeper (envOfC qual (defScope st) s.heap.objs.size f cdv)) →
      Takes (cxOf (L2.CX P w) P w K mg base N qual (defScope st) f cdv A outer s H E) W →
      PSs (cxOf (L2.CX P w) P w K mg base N qual (defScope st) f cdv A outer s H E) (defBody st) (TSv K W body)) : FnG P w K mg base (L2.CX P w) (k + 1) f fd ps (spX K n (runX N.length body)) := by
  obtain ⟨oc, od, kV, doc, pm, an, cdv, ct, osl, rfl, found, code⟩ := Fu.ex
  refine fnG found code SC (fun vs H Q E h => h.1.trans hps.symm) fun A outer s H vs Q E hg hr h => ?_
  obtain ⟨hl, S, F, ds, dk, r, dk', R, rv, e, q⟩ := h
  refine ⟨_, hb cdv A outer s H E (fun cls d _ H => E cls d H) hg hr (takes_of rfl rfl rfl rfl), ?_⟩
  unfold runX st0 at e
  obtain ⟨⟨o, ρ', k'⟩, eb, e⟩ := Option.bind_eq_some_iff.mp e
  refine ⟨S, F, _, dk, o, ρ', k', R.enter rv (by omega), eb, ?_⟩
  cases o with
  | nx => cases e; exact fun σ' H' S' l R' => q _ H' S' l R'.drop .non
  | rt d' => cases e; exact fun v σ' H' S' l R' rv' => q v H' S' l R'.drop rv'
  | bk => cases e
  | ct => cases e
  | ex C ns es => cases e; exact fun σ' H' S' cls d l R' x => q H' S' cls d l R'.drop x
end
section
variable {X : Cx} {k : Nat} {f : Addr} {fd : FuncData} {ps : List Str} {sp : Sp} {E : L2.St → XK} {x : Str} {p pos : Pos} {e : Expr} {es : List Expr} {t : TA}
theorem goXS {CX : CXT} {pins : List (Addr × Obj)} {σ : L2.St} {H : Hp} {s : Shared} {Q : VK} {us : List Value} {vs : List V} (F : FnG X.prog X.w X.K X.mg X.base CX k f fd ps sp) (hg : X.A.guards = some []) (hr : Room k X.A) (hb : Binds X.K fd ps []) (hx : PassesAt CX X σ (E σ))
    (I : Inv X pins σ H s) (r : Vals vs us) (h : sp vs H Q (E σ)) : wpAny (model X.prog X.w) X.A (call (.ref f) us) (EP X pins σ Q) X.xe s := by
  have ll : (us ++ []).length = ps.length := by rw [List.append_nil, ← r.length]; exact F.many _ _ _ _ h
  have b := hb s us I.kIn ll
  rw [List.append_nil] at b
  refine wpAny_call (codeAny_mono (F.go X.A X.stack s H ⟨us, []⟩ _ _ Q (E σ) hg hr I.env0 b r h) ?_)
  intro res s' hq
  cases res with
  | error err => exact hx pins H s err s' I hq
  | ok fl =>
    cases fl with
    | ret u => exact I.after hq
    | next => exact hq.elim
    | brk => exact hq.elim
    | cont => exact hq.elim
theorem callXS {CX : CXT} (F : FnG X.prog X.w X.K X.mg X.base CX k f fd ps sp) (hgu : X.A.guards = some []) (hr : Room k X.A) (hg : Gl X x) (hm : X.mg x = some (.ref f)) (hk : PySem.W.keepIn X.K (.ref f) = true) (hb : Binds X.K fd ps []) (hx : ∀ σ, PassesAt CX X σ (E σ))
    (ha : PA X (e :: es) t) (hdb : (x == ("__debug__" : Str)) = false := by decide) (he : starEach (e :: es) X.env = (false, eval e X.env) :: starEach es X.env := by rfl) (hpl : (backTo pos (starEach es X.env)).any (·.1) = false := by rfl) :
    PE X (.Call (.Name x p) (e :: es) [] pos) (tCallS sp E t) := ⟨fun pins s σ H Q I h =>
  wpAny_Call_Name_kw (ld_glob I hg hm (PySem.W.callWith_K (h₀ := X.base) I.ok.mod.kin hk (thn (ha.run pos pins s σ H _ I h) fun us s1 ⟨vs, H1, I1, r, q⟩ => ⟨I1.kIn, goXS F hgu hr hb (hx σ) I1 r q⟩) he hpl) hdb)⟩
end
/-- a def that may raise, under its name -/
structure CwX (P : Program) (w : World) (K : PySem.W.Frag) (mg : Str → Option Value) (base : Heap) (k : Nat) (x : Str) (n : Nat) (F : FnX) : Prop where
  ex : ∃ (f : Addr) (fd : FuncData) (ps : List Str), FnG P w K mg base (L2.CX P w) k f fd ps (spX K n F) ∧ mg x = some (.ref f) ∧ PySem.W.keepIn K (.ref f) = true ∧ Binds K fd ps []
section
variable {P : Program} {w : World} {K : PySem.W.Frag} {mg : Str → Option Value} {base : Heap} {k : Nat}
theorem clX {x : Str} {st : Stmt} {N ps : List Str} (body : SS) (n m : Nat) (D : Df K mg x st) (SC : FnScope N ps (defScope st)) (hps : ps.length = n) (hm : N.length = m) (hN : n ≤ m)
    (hbind : ∀ (kV doc pm : Value) (an : Option Addr) (cdv ct : Value) (us : List Value), us.length = ps.length → bindArgs (PySem.W.fnOf x x (defArgs st) (defBody st) (defScope st) .none kV doc pm an cdv ct) ⟨us, []⟩ = pure (ps.zip us))
    (hb : ∀ (f : Addr) (cdv : Value) (A : Around) (outer : List Env) (s : Shared) (H : Hp) (E : XK) (W : WX), A.guards = some [] → Room k (A.deeper (envOfC x (defScope st) s.heap.objs.size f cdv)) →
      Takes (cxOf (L2.CX P w) P w K mg base N x (defScope st) f cdv A outer s H E) W →
      PSs (cxOf (L2.CX P w) P w K mg base N x (defScope st) f cdv A outer s H E) (defBody st) (TSv K W body)) : CwX P w K mg base (k + 1) x n (runX m body) := by
  subst hm
  obtain ⟨f, fd, Fu, m⟩ := D
  exact ⟨f, fd, ps, fnX n hps hN Fu SC (hb f), m, Fu.kp, Fu.binds hbind⟩
end
section
variable {X : Cx} {x : Str} {p pos : Pos} {a : Expr} {es : List Expr} {fs : EL} {n j : Nat} {F : FnX} {W : WX}
theorem d_callX (c : CwX X.prog X.w X.K X.mg X.base j x n F) (tk : Takes X W) (hgu : X.A.guards = some []) (hr : Room j X.A) (hg : Gl X x) (ha : PA X (a :: es) (TAv X.K fs)) (hdb : (x == ("__debug__" : Str)) = false) (he : starEach (a :: es) X.env = (false, eval a X.env) :: starEach es X.env) (hpl : (backTo pos (starEach es X.env)).any (·.1) = false) :
    PE X (.Call (.Name x p) (a :: es) [] pos) (TEx X.K W (xCallF n F fs)) := by
  obtain ⟨f, fd, ps, G, m, hk, hb⟩ := c.ex
  exact (callXS (E := WE W) G hgu hr hg m hk hb (passAt tk) ha hdb he hpl).imp fun _ _ _ h => tex_callF h
end
end WS
namespace WS
open PySem PySem.Spec PyProof.Rows L2

/-! ## raise C(e), C with an own __init__(self, f) -/
/-- what such an __init__ does -/
def spEx (K : PySem.W.Frag) (f : Str) (okv : V → Prop) : Sp := fun vs H Q _ => ∃ (a C : Addr) (v : V), vs = [.ref a, v] ∧ OexC K C ∧ PySem.W.findIn K (.ref C) f = some none ∧ okv v ∧ H a = some (exo a C none) ∧
  ∀ dx, H dx = none → dx ≠ a → Q .non (upd (upd H dx (exd dx [(f, v)])) a (exo a C (some dx)))
structure Exi (P : Program) (w : World) (K : PySem.W.Frag) (mg : Str → Option Value) (base : Heap) (k : Nat) (nm f : Str) (okv : V → Prop) : Prop where
  ex : ∃ (C fI : Addr) (fd : FuncData) (ps : List Str), OexC K C ∧ excG K C = true ∧ PySem.W.findIn K (.ref C) "__init__" = some (some (.ref fI)) ∧ PySem.W.typeIn K (.ref fI) = some (.type "function") ∧ PySem.W.findIn K (.ref C) f = some none ∧
    FnOk P w K mg base CX0 k fI fd ps (spEx K f okv) ∧ Binds K fd ps [] ∧ mg nm = some (.ref C) ∧ ClsN K nm C
def sRaise (nm f : Str) (okd : D → Bool) (e : E) : SS := fun ρ k => (e ρ k).bind fun x => if okd x.1 = true then some (.ex nm [f] [x.1], x.2.1, x.2.2) else none
theorem del_upd {H : Hp} {a d : Addr} {o u w : HO} (ha : H a = none) (hd : d ≠ a) : upd (del (upd (upd (upd H a o) d u) a o) a) d w = upd H d w := by
  funext b
  by_cases e : b = d
  · rw [e, upd_same, upd_same]
  · rw [upd_ne e, upd_ne e]
    by_cases e2 : b = a
    · rw [e2, del_same, ha]
    · rw [del_ne e2, upd_ne e2, upd_ne e, upd_ne e2]
theorem del_upd' {H : Hp} {a d : Addr} {o o' u w : HO} (ha : H a = none) (hd : d ≠ a) : upd (del (upd (upd (upd H a o) d u) a o') a) d w = upd H d w := by
  funext b
  by_cases e : b = d
  · rw [e, upd_same, upd_same]
  · rw [upd_ne e, upd_ne e]
    by_cases e2 : b = a
    · rw [e2, del_same, ha]
    · rw [del_ne e2, upd_ne e2, upd_ne e, upd_ne e2]
section
variable {X : Cx} {nm f : Str} {okv : V → Prop} {okd : D → Bool} {k : Nat} {e : Expr} {fe : E} {W : WX} {p pos pos' : Pos}
theorem s_raise (M : Exi X.prog X.w X.K X.mg X.base k nm f okv) (hok : ∀ (S : Sx) (v : V) (d : D), Rp X.K S v d → okd d = true → okv v) (hc : X.calm = true) (tk : Takes X W) (hr : Room (k + 1) X.A) (hg : Gl X nm) (he : PE X e (TEv X.K fe))
    (hs : starEach [e] X.env = (false, eval e X.env) :: starEach [] X.env := by kernel_rfl!) (hdb : (nm == ("__debug__" : Str)) = false := by decide) :
    PS X (.Raise (some (.Call (.Name nm p) [e] [] pos)) none pos') (TSv X.K W (sRaise nm f okd fe)) := by
  obtain ⟨C, fI, fd, ps, T, xg, iC, tI, hno, F, hb, hm, hn⟩ := M.ex
  refine (ps_raise hc tk (pmk_oex (dvs := []) T iC tI F hr hb .nil (fun _ _ _ _ _ _ _ h => h.elim) hg hm (pa_cons he pa_nil hs) hdb hs (by rfl))).imp fun D' σ H h => ?_
  obtain ⟨S, F, ρ, dk, o, ρ', dk', R, e, q⟩ := h
  unfold sRaise at e
  obtain ⟨⟨d, ρ1, k1⟩, e1, e⟩ := Option.bind_eq_some_iff.mp e
  split at e
  case isFalse => cases e
  rename_i hd
  cases e
  refine ⟨S, F, ρ, dk, d, _, _, R, e1, fun v H1 S1 l1 R1 rv => ?_⟩
  refine ⟨by simp, fun a ha => ?_⟩
  refine ⟨a, C, v, by simp, T, hno, hok _ _ _ rv hd, upd_same, fun dx hdx hne => ⟨rfl, dx, [(f, v)], upd_same, by rw [upd_ne hne, upd_same], ?_, ?_⟩⟩
  · rw [upd_ne hne] at hdx; exact hdx
  · rw [upd_ne hne] at hdx
    rw [del_upd' ha hne]
    have g := Grow.add (o := .xd [(f, v)]) R1.sh hdx
    exact q σ _ (S1.add dx (.xd [(f, v)])) (.ref C) (some dx) (l1.trans g.le) (R1.grow g) ⟨C, rfl, hn, xg, .inr ⟨dx, _, rfl, Sx.add_at, rfl, .cons (rv.mono g.le) .nil⟩⟩
end
/-! ### such an __init__: C0.__init__(self, text); self.f = f -/
/-- a text of the argument -/
def TxtT (K : PySem.W.Frag) (okv : V → Prop) (te : TE) : Prop := ∀ (σ : L2.St) (H : Hp) (Q : VK) (v : V), σ[1]? = some (some v) → okv v → (∀ x : Str, Q (.str x) H) → te σ H Q
section
variable {X : Cx} {e : Expr} {es : List Expr} {ta : TA} {B : Str} {p1 p2 pos : Pos}
/-- C0.__init__(self, ..), C0 an own class whose __init__ is ValueError's -/
theorem pe_weinit {pl : Sem Bool} {Wc : Addr} (hg : Gl X B) (hm : X.mg B = some (.ref Wc)) (hG : PySem.W.specialIn X.K (.ref Wc) "__getattribute__" = some (some (.builtin "type.__getattribute__"))) (hr : PySem.W.readsIn X.K Wc (.type "type") = true)
    (vV : PySem.W.findCls X.K (.ref Wc) (.type "type") "__init__" = some (.val (.builtin "ValueError.__init__"))) (ha : PA X (e :: es) ta) (hdb : (B == ("__debug__" : Str)) = false)
    (hc : eval (.Call (.Attribute (.Name B p1) "__init__" p2) (e :: es) [] pos) X.env = (do
      let ov ← eval (.Name B p1) X.env
      standAt p2.atName
      let (f, first) ← holding [ov] (getMethod ov "__init__" pl)
      callWith pos f first (backTo pos (starEach (e :: es) X.env)) (backToKw pos (keywordEach [] X.env))) := by rfl)
    (he : starEach (e :: es) X.env = (false, eval e X.env) :: starEach es X.env := by rfl) (hpl : (backTo pos (starEach es X.env)).any (·.1) = false := by rfl) :
    PE X (.Call (.Attribute (.Name B p1) "__init__" p2) (e :: es) [] pos) (tVeI X.K ta) := by
  refine ⟨fun pins s σ H Q I h => ?_⟩
  refine PySem.W.methodCall_KW (ld_glob I hg hm ?_ hdb) hc
  refine PySem.W.method_cls I.kIn hG ?_
  refine PySem.W.cls_value I.kIn hr vV (by decide +kernel) ?_
  show wpAny _ _ (callWith pos (Value.builtin "ValueError.__init__") [] (backTo pos (starEach (e :: es) X.env)) []) _ _ _
  refine PyProof.Rows.callWith_method1 (thn (ha.run pos pins _ σ H _ (I.tok _) h) fun us s1 ⟨vs, H1, I1, r1, a, C, ws, ev, hl, T, ea, q⟩ => ?_) he hpl
  subst ev
  cases r1 with
  | @cons _ u0 _ ur ra rw' =>
    obtain rfl : u0 = Value.ref a := ra
    have hlen : ur.length ≤ sizeLine := by
      rw [← Paired.length rw', sizeLine_eq]
      omega
    exact oinit_ok T I1 ea hlen fun s' J => ⟨.non, H1, J, rfl, q⟩
end
/-- what the module says of the base -/
structure WeB (K : PySem.W.Frag) (mg : Str → Option Value) (B : Str) : Prop where
  ex : ∃ Wc : Addr, mg B = some (.ref Wc) ∧ PySem.W.specialIn K (.ref Wc) "__getattribute__" = some (some (.builtin "type.__getattribute__")) ∧ PySem.W.readsIn K Wc (.type "type") = true ∧ PySem.W.findCls K (.ref Wc) (.type "type") "__init__" = some (.val (.builtin "ValueError.__init__"))
section
variable {P : Program} {w : World} {K : PySem.W.Frag} {mg : Str → Option Value} {base : Heap} {k : Nat}
/-- a class of this form -/
structure ExC0 (K : PySem.W.Frag) (mg : Str → Option Value) (nm qual f : Str) (st : Stmt) : Prop where
  ex : ∃ (C fI : Addr) (fd : FuncData), Fun K "__init__" qual st fI fd ∧ OexC K C ∧ excG K C = true ∧ PySem.W.findIn K (.ref C) "__init__" = some (some (.ref fI)) ∧ PySem.W.typeIn K (.ref fI) = some (.type "function") ∧ PySem.W.findIn K (.ref C) f = some none ∧ mg nm = some (.ref C) ∧ ClsN K nm C
theorem exi_mk {nm qual f : Str} {st : Stmt} {N ps : List Str} {okv : V → Prop} (D : ExC0 K mg nm qual f st) (SC : FnScope N ps (defScope st)) (hps : ps.length = 2)
    (hbind : ∀ (kV doc pm : Value) (an : Option Addr) (cdv ct : Value) (us : List Value), us.length = ps.length → bindArgs (PySem.W.fnOf "__init__" qual (defArgs st) (defBody st) (defScope st) .none kV doc pm an cdv ct) ⟨us, []⟩ = pure (ps.zip us))
    (hb : ∀ (f' : Addr) (cdv : Value) (A : Around) (outer : List Env) (s : Shared) (H : Hp) (E : XK), Room k (A.deeper (envOfC qual (defScope st) s.heap.objs.size f' cdv)) →
      ∃ te, TxtT K okv te ∧ PSs (cxOf CX0 P w K mg base N qual (defScope st) f' cdv A outer s H E).nox (defBody st) (tSeq (tDrop (tVeI K (tCons (tVar 0) (tCons te tNil)))) (tSeq (tOst K f (tVar 0) (tVar 1)) tNext))) :
    Exi P w K mg base (k + 1) nm f okv := by
  obtain ⟨C, fI, fd, Fu, T, xg, iC, tI, hno, hm, hn⟩ := D.ex
  refine ⟨C, fI, fd, ps, T, xg, iC, tI, hno, ?_, Fu.binds hbind, hm, hn⟩
  obtain ⟨oc, od, kV, doc, pm, an, cdv, ct, osl, rfl, found, code⟩ := Fu.ex
  refine fn_of found code SC (fun vs H Q E h => by obtain ⟨a, C, v, rfl, _⟩ := h; rw [hps]; rfl) fun A outer s H vs Q E hr h => ?_
  obtain ⟨te, ht, hbody⟩ := hb fI cdv A outer s H E hr
  refine ⟨_, hbody.nox, ?_⟩
  obtain ⟨a, C', v, rfl, T', hno', hv, ha, q⟩ := h
  have e0 : (L2.start N [V.ref a, v])[0]? = some (some (V.ref a)) := by unfold L2.start; rfl
  have e1 : (L2.start N [V.ref a, v])[1]? = some (some v) := by unfold L2.start; rfl
  refine ⟨V.ref a, e0, ?_⟩
  refine ht _ _ _ v e1 hv fun x => ?_
  refine ⟨a, C', [.str x], rfl, by simp, T', ha, ?_⟩
  refine ⟨v, e1, V.ref a, e0, a, C', rfl, T', hno', .inl ⟨ha, fun dx hdx hne => q dx hdx hne⟩⟩
end
end WS
namespace WS
open PySem PySem.Spec PyProof.Rows L2

/-! ## try: body, except C as x: suite -/
def isEx : Out → Bool
  | .ex _ _ _ => true
  | _ => false
def sTry (yes : List (Str × Bool)) (i : Nat) (b s : SS) : SS := fun ρ k => (b ρ k).bind fun x => match x.1 with
  | .ex C ns ds => (yes.lookup C).bind fun t => if t = true then (s (x.2.1.set i (.val (.ins C ns ds))) x.2.2).bind fun y => if isEx y.1 = true then none else some (y.1, y.2.1.set i .no, y.2.2) else some x
  | _ => some x
/-- which classes the clause takes -/
def YesC (K : PySem.W.Frag) (c : Value) (yes : List (Str × Bool)) : Prop := ∀ (nm : Str) (b : Bool) (C : Addr), yes.lookup nm = some b → ClsN K nm C → PySem.W.exmOne K (.ref C) c = some b
section
variable {X : Cx} {pins : List (Addr × Obj)} {σ : L2.St} {H : Hp} {s : Shared}
theorem Inv.suite0 (I : Inv X pins σ H s) (a : Addr) : Inv (X.suite a (X.pn ++ pins)) [] σ H s :=
  ⟨I.ok.suite _ _, I.os, I.bare, I.base, I.loc, I.cell, I.free, I.freeC, fun p hp => I.pin p (by rw [List.append_nil] at hp; exact hp), I.hok, I.len⟩
theorem Inv.unsuite0 {a : Addr} {pn' : List (Addr × Obj)} (I : Inv (X.suite a (X.pn ++ pins)) pn' σ H s) (ok : X.Ok) : Inv X pins σ H s :=
  ⟨ok, I.os, I.bare, I.base, I.loc, I.cell, I.free, I.freeC, fun p hp => I.pin p (List.mem_append_left _ hp), I.hok, I.len⟩
end
theorem exH_ok {P : Program} {w : World} {H : Hp} {h : Heap} {a C : Addr} {d : Option Addr} {o : Obj} {vs : Array Value} (e : h.get? a = some o) (z : Zc (.ref C) d o) (hd : o.data = .fields vs) : ObjOk P w H h a (exH a C d) :=
  ⟨⟨o, vs, e, z.1, z.2, hd⟩, ⟨o, e⟩, fun _ _ ⟨o, v, q, r⟩ k => ⟨o, v, k o q, r⟩⟩
/-- a caught exception is laid into the finished things -/
theorem ExRp.laid {K : PySem.W.Frag} {S : Sx} {C : Str} {ns : List Str} {ds : List D} {cls : Value} {d : Option Addr} {a : Addr} (h : ExRp K S C ns ds cls d) (hn : S.hp a = none) :
    ∃ Ca, cls = .ref Ca ∧ Rp K (S.add a (exH a Ca d)) (.ref a) (.ins C ns ds) := by
  obtain ⟨Ca, e1, e2, e3, e4⟩ := h
  refine ⟨Ca, e1, ?_⟩
  have l : Le S (S.add a (exH a Ca d)) := ⟨Sub.new hn, fun _ e => e⟩
  rcases e4 with ⟨rfl, rfl, rfl⟩ | ⟨dd, fs, rfl, e5, e6, e7⟩
  · exact .exc0 Sx.add_at e2 e3
  · exact .exc Sx.add_at e2 e3 (l.s _ _ e5) e6 rfl (e7.mono l)
section
variable {X : Cx} {x n : Str} {c : Value} {i : Nat} {body suite : List Stmt} {b₀ : Stmt} {np pos pos' : Pos} {fb fs : SS} {W : WX} {yes : List (Str × Bool)}
theorem s_try (hs : X.stack = X.env :: X.outer) (hf : X.env.frame = some X.env.locals) (hN : X.N.Nodup) (hi : X.N[i]? = some n) (hln : X.env.kindOf n = some .local) (hc : Names X x c) (hyes : YesC X.K c yes) (tk : Takes X W)
    (hb : ∀ (W : WX) (pn : List (Addr × Obj)) (xe : Value → Shared → Prop), Takes (X.tr pn xe) W → PassesOwn (model X.prog X.w) X.A X.env xe → PSs (X.tr pn xe) body (TSv X.K W fb))
    (hsu : ∀ (a : Addr) (pn : List (Addr × Obj)), PSs (X.suite a pn) (b₀ :: suite) (TSv X.K W0 fs)) :
    PS X (.Try body [.ExceptHandler (some (.Name x np)) (some n) (b₀ :: suite) pos'] [] [] pos) (TSv X.K W (sTry yes i fb fs)) := by
  refine ⟨fun pins s σ H D I h => ?_⟩
  have ok := I.ok
  have hfr : X.A.frames = some (X.env :: X.outer) := by rw [ok.frames, hs]
  have hloc : Loc X.env.scope n := .inl hln
  obtain ⟨S, F, ρ, dk, o, ρ', dk', R, e, q⟩ := h
  unfold sTry at e
  obtain ⟨⟨o1, ρ1, k1⟩, e1, e⟩ := Option.bind_eq_some_iff.mp e
  refine wpAny_Try_except ?_
  refine wpAny_mono ((hb (fun cls d σ' H' => ∃ S' C ns ds, o1 = .ex C ns ds ∧ Le S S' ∧ Rep X.K σ' H' S' F ρ1 k1 ∧ ExRp X.K S' C ns ds cls d) (X.pn ++ pins) (fun e s₁ => wpAny (model X.prog X.w) X.A (noteFrame e X.env) (fun _ s₂ => wpAny (model X.prog X.w) X.A (setFlight e none) (fun _ s₃ =>
    wpAny (model X.prog X.w) X.A (handleBy e X.env [.ExceptHandler (some (.Name x np)) (some n) (b₀ :: suite) pos']) (SP X pins D) X.xe s₃) X.xe s₂) X.xe s₁) (fun u s' xx => ?_) PassesOwn.looking).run [] s σ H D (I.toTry _) ?_) (fun f s1 hsp => ?_) (fun e s1 he => he)
  · -- the catch
    obtain ⟨a, B, sI, pins', σ', H', cls, d, rfl, J', nb, up, sky, na, os, ag, S', C, ns, ds, rfl, l, R1, xr⟩ := xx
    have J : Inv X pins σ' H' sI := J'.ofTry ok
    have sky' : Sky B (X.env :: X.outer) a (Zc cls d) X.env.locals s'.heap := by rw [← hs]; exact sky
    obtain ⟨t, et, e⟩ := Option.bind_eq_some_iff.mp e
    obtain ⟨Ca, rfl, xrp⟩ := xr.laid (R1.sh.none na)
    have hb1 : PySem.W.exmOne X.K (.ref Ca) c = some t := by
      obtain ⟨Ca', z1, z2, _⟩ := xr
      cases z1
      exact hyes _ _ _ et z2
    show wpAny (model X.prog X.w) X.A (noteFrame (.ref a) X.env) _ _ _
    refine Sky.land Zc.steady hfr hf sky' fun h3 fl3 up3 => ?_
    have J3 : Inv X pins σ' H' { s' with heap := h3 } := J.landed nb fl3.1 (up.trans up3) os ag
    obtain ⟨oe3, vs3, he3, hz3, hd3⟩ := fl3.there
    have notFr : ∀ {h : Heap} {o : Obj} {vs : Array Value}, h.FunFrames B (X.env :: X.outer) → h.get? a = some o → o.data = .fields vs → a ∉ frs (X.env :: X.outer) := fun {h o vs} ff e dd hm => by
      obtain ⟨_, o', e', hnf⟩ := ff.mem hm
      rw [e] at e'; cases e'
      exact hnf _ dd
    have nfr := notFr fl3.2.2.1 he3 hd3
    have nB : B.get? a = none := fl3.2.1
    have nI : sI.heap.get? a = none := by
      cases z : sI.heap.get? a with
      | none => rfl
      | some ob =>
        have := nb a ob z (by rw [hs]; exact nfr)
        rw [nB] at this; cases this
    have S3 := Inv.suite0 J3 a
    refine wpAny_handleBy_cons (codeAny_handlers_test ?_) (by intro q; cases q)
    have LT : PySem.W.Looks (model X.prog X.w) h3 (typeOf (.ref a)) (.ref Ca) := fun A Q E s k q => wpAny_typeOf_ref (k _ _ he3) (by rw [hz3.1]; exact q)
    have LM := PySem.W.exm_one (M := model X.prog X.w) (J3.kIn) LT hb1
    have test : ∀ {Q : Value → Shared → Prop} {E : Value → Shared → Prop}, Q c { s' with heap := h3 } → wpAny (model X.prog X.w) (X.A.mark (some (.ref a))) (eval (.Name x np) X.env) Q E { s' with heap := h3 } := fun {Q E} q => by
      obtain ⟨hg, hdbg, hm | ⟨hm, hv, hnn⟩⟩ := hc
      · exact ld_glob (X := X.suite a (X.pn ++ pins)) S3 hg hm q hdbg
      · exact ld_blt (X := X.suite a (X.pn ++ pins)) S3 hg hm hv q hnn hdbg
    refine test (LM.here ?_)
    cases t with
    | true =>
      rw [if_pos rfl] at e
      obtain ⟨⟨o2, ρ2, k2⟩, e2, e⟩ := Option.bind_eq_some_iff.mp e
      split at e
      case isTrue => cases e
      rename_i hx
      cases e
      refine codeAny_handlers_suite_as ?_
      refine HandSPX.lands_againZ fl3 fun h4 fl4 up4 => ?_
      obtain ⟨oe4, vs4, he4, hz4, hd4⟩ := fl4.there
      -- the heap without it
      obtain ⟨G, g1, g2⟩ := restrict h4 fun b => decide (b ≠ a)
      have ga : G.get? a = none := g2 a (by simp)
      have gk : ∀ b, b ≠ a → G.get? b = h4.get? b := fun b hb => g1 b (decide_eq_true hb)
      have gs : ∀ b o, G.get? b = some o → h4.get? b = some o := fun b o z => by
        by_cases hb : b = a
        · rw [hb, ga] at z; cases z
        · rw [← gk b hb]; exact z
      have JG : Inv X pins σ' H' { s' with heap := G } := J.landed nb (fun b o z => by
          have hb : b ≠ a := fun w => by rw [w, nB] at z; cases z
          exact (gk b hb).trans (fl4.1 b o z)) (fun b o z hnf => by
          have hb : b ≠ a := fun w => by rw [w, nI] at z; cases z
          obtain ⟨sl, z2⟩ := (up.trans (up3.trans up4)) b o z hnf
          exact ⟨sl, (gk b hb).trans z2⟩) os ag
      have J4 : Inv X pins σ' (upd H' a (exH a Ca d)) { s' with heap := h4 } := Inv.laidN (s := { s' with heap := G }) (t' := s'.toks) JG gs ga na (exH_ok he4 hz4 hd4)
      have gr : Grow S' H' (S'.add a (exH a Ca d)) (upd H' a (exH a Ca d)) := Grow.add R1.sh na
      have R4 := (R1.grow gr).put (i := i) xrp
      have S4 := Inv.suite0 J4 a
      refine store_ok (X := X.suite a (X.pn ++ pins)) (v := .ref a) S4 hN hi hloc rfl (fun s5 S5 => ?_) (.inr hln)
      have end_ : ∀ {s6 : Shared} {σ6 : L2.St} {H6 : Hp} {Q : Shared → Prop}, Inv (X.suite a (X.pn ++ pins)) [] σ6 H6 s6 → (∀ s7, Inv X pins (σ6.set i none) H6 s7 → Q s7) →
          wpAny (model X.prog X.w) X.A (do bindName X.env n .none; unbindBehindTheSuite X.env n pos') (fun _ s7 => Q s7) X.xe s6 := fun {s6 σ6 H6 Q} S6 hq => gone_ok (Inv.unsuite0 S6 ok) hN hi hln hq
      have off : ∀ {σ6 : L2.St} {H6 : Hp} {S6 : Sx}, Rep X.K σ6 H6 S6 F ρ2 k2 → Rep X.K (σ6.set i none) H6 S6 F (ρ2.set i .no) k2 := fun {σ6 H6 S6} r => by
        have := Rep.wiped (σ2 := σ6.set i none) (vs := [i]) r (by simp) (fun j hj => List.getElem?_set_ne (fun z => hj (by simp [z])))
        exact this
      refine wpAny_mono ((hsu a (X.pn ++ pins)).run [] s5 _ _ { nx := fun σ' H' => D.nx (σ'.set i none) H', rt := D.rt, bk := fun σ' H' => D.bk (σ'.set i none) H', ct := fun σ' H' => D.ct (σ'.set i none) H' } S5 ⟨_, F, _, _, o2, ρ2, k2, R4, e2, ?_⟩) (fun f s6 hsp => ?_) (fun _ _ z => False.elim z)
      · have le : Le S (S'.add a (exH a Ca d)) := l.trans gr.le
        cases o2 with
        | nx => exact fun σ6 H6 S6 l6 R6 => q _ H6 S6 (le.trans l6) (off R6)
        | rt d6 => exact fun v σ6 H6 S6 l6 R6 rv => q v (σ6.set i none) H6 S6 (le.trans l6) (off R6) rv
        | bk => exact fun σ6 H6 S6 l6 R6 => q _ H6 S6 (le.trans l6) (off R6)
        | ct => exact fun σ6 H6 S6 l6 R6 => q _ H6 S6 (le.trans l6) (off R6)
        | ex C6 ns6 ds6 => exact absurd rfl hx
      · cases f with
        | next =>
          obtain ⟨σ6, H6, S6, q6⟩ := hsp
          exact end_ S6 fun s7 J7 => ⟨_, _, J7, q6⟩
        | brk =>
          obtain ⟨σ6, H6, S6, q6⟩ := hsp
          exact end_ S6 fun s7 J7 => ⟨_, _, J7, q6⟩
        | cont =>
          obtain ⟨σ6, H6, S6, q6⟩ := hsp
          exact end_ S6 fun s7 J7 => ⟨_, _, J7, q6⟩
        | ret u =>
          obtain ⟨v6, σ6, H6, S6, r6, q6⟩ := hsp
          exact end_ S6 fun s7 J7 => ⟨_, _, _, J7, r6, q6⟩
    | false =>
      rw [if_neg (by decide)] at e
      cases e
      show wpAny _ X.A (handleBy (.ref a) X.env []) _ _ _
      refine wpAny_handleBy_nil ?_
      obtain ⟨k1, k2, k3, oe, vs, T, oT, ts', he, hz, hd, h1, hr⟩ := id fl3
      unfold PySem.passOn
      refine wpAny_bind (wpAny_field he hd h1 ?_)
      rw [if_neg (show ¬ ((Value.ref T == Value.none) = true) from by simp)]
      have fin : wpAny (model X.prog X.w) X.A (setFlight (.ref a) X.env.frame) (fun _ s4 => wpAny (model X.prog X.w) X.A (throw (.ref a) : Sem Flow) (SP X pins D) X.xe s4) X.xe { s' with heap := h3 } := by
        rw [hf]
        refine HandSPX.setFlight_upZ fl3 fun h4 hh4 up4 => wpAny_throw (tk _ _ ?_)
        exact ⟨a, B, sI, pins, σ', H', .ref Ca, d, rfl, J, nb, (up.trans up3).trans up4, .inr (.inr (by rw [hs]; exact hh4)), na, os, ag, q σ' H' S' _ _ l R1 xr⟩
      first
        | exact wpAny_bind (wpAny_pure (wpAny_bind fin))
        | exact wpAny_bind fin
  · refine ⟨S, F, ρ, dk, o1, ρ1, k1, R, e1, ?_⟩
    cases o1 with
    | nx => cases e; exact q
    | rt d => cases e; exact q
    | bk => cases e; exact q
    | ct => cases e; exact q
    | ex C ns ds => exact fun σ' H' S' cls d l R' x => ⟨S', C, ns, ds, rfl, l, R', x⟩
  · cases f with
    | next =>
      obtain ⟨σ', H', J', q⟩ := hsp
      exact wpAny_execs_nil ⟨σ', H', J'.ofTry ok, q⟩
    | brk =>
      obtain ⟨σ', H', J', q⟩ := hsp
      exact ⟨σ', H', J'.ofTry ok, q⟩
    | cont =>
      obtain ⟨σ', H', J', q⟩ := hsp
      exact ⟨σ', H', J'.ofTry ok, q⟩
    | ret u =>
      obtain ⟨v, σ', H', J', r, q⟩ := hsp
      exact ⟨v, σ', H', J'.ofTry ok, r, q⟩
end
end WS
namespace WS
open PySem PySem.Spec PyProof.Rows L2

/-! ## own classes: what is asked of them -/
structure InsC (K : PySem.W.Frag) (C : Addr) : Prop where
  ha : PySem.W.findIn K (.ref C) "__class__" = some (some (.builtin "object.__class__"))
  hn : PySem.W.specialIn K (.builtin "object.__class__") "__get__" = some (some (.builtin "getset_descriptor.__get__"))
  ht : PySem.W.takesIn K (.builtin "object.__class__") = some true
  hm : PySem.W.mroIn K C (.type "object") = some true
/-- the instances of a class by its name: they may be asked for their class -/
def ClsK (K : PySem.W.Frag) (C : Addr) : Prop := (excG K C = false ∧ Cls K C ∧ InsC K C) ∨ (excG K C = true ∧ ExcC K C)
theorem ClsN.eq {K : PySem.W.Frag} {nm : Str} {C C' : Addr} (a : ClsN K nm C) (b : ClsN K nm C') : C = C' := by
  unfold ClsN at a b
  rw [a] at b
  cases b; rfl
/-- the type of a value, an exception's too -/
inductive TyE (K : PySem.W.Frag) (H : Hp) : V → Value → Prop where
  | base {v : V} {t : Value} (h : TyX K H v t) : TyE K H v t
  | exc0 {a C : Addr} (e : H a = some (exH a C none)) (c : ExcC K C) : TyE K H (.ref a) (.ref C)
  | exc {a C dd : Addr} {fs : List (Str × V)} (e : H a = some (exH a C (some dd))) (d : H dd = some (.xd fs)) (c : ExcC K C) : TyE K H (.ref a) (.ref C)
/-- isinstance(x, c) -/
def rIsE2 (K : PySem.W.Frag) : List V → Hp → VK → Prop := fun xs H Q => ∃ (x c : V) (t u : Value) (b : Bool), xs = [x, c] ∧ ClsV c u ∧ TyE K H x t ∧ PySem.W.kitOne K t u = some b ∧ Q (.bl b) H
section
variable {X : Cx} {pins : List (Addr × Obj)} {σ : L2.St} {H : Hp} {s : Shared}
theorem exh_inst0 {a C : Addr} (I : Inv X pins σ H s) (e : H a = some (exH a C none)) : ∃ o, PySem.W.InstAt s.heap a o C none := by
  have x : ObjOk X.prog X.w H s.heap a (exH a C none) := I.hok a _ e
  obtain ⟨o, vs, h1, h2, h3, h4⟩ := x.1
  exact ⟨o, h1, h2, by unfold PySem.W.notCls; rw [h4], by rw [h3]; trivial⟩
theorem exh_inst {a C dd : Addr} {fs : List (Str × V)} (I : Inv X pins σ H s) (e : H a = some (exH a C (some dd))) (ed : H dd = some (.xd fs)) :
    ∃ (o od : Obj) (mA : Str → Option Value), PySem.W.InstAt s.heap a o C (some od) ∧ (∀ f, RelO (fs.lookup f) (mA f)) ∧ ∀ n, PySem.W.lookIn n od = some (mA n) := by
  have x : ObjOk X.prog X.w H s.heap a (exH a C (some dd)) := I.hok a _ e
  obtain ⟨o, vs, h1, h2, h3, h4⟩ := x.1
  have hx : ObjOk X.prog X.w H s.heap dd (.xd fs) := I.hok dd _ ed
  obtain ⟨mA, hns, hr⟩ := hx
  obtain ⟨od, ho, hl⟩ := lookIn_ns hns
  exact ⟨o, od, mA, ⟨h1, h2, by unfold PySem.W.notCls; rw [h4], by rw [h3]; exact ho⟩, hr, hl⟩
theorem call_isE2 : CallR X (.builtin "isinstance") (rIsE2 X.K) := by
  intro pins s σ H xs us Q I r h
  obtain ⟨x, c, t, u, b, rfl, k, ty, e, q⟩ := h
  obtain ⟨u1, u2, rfl, r1, r2⟩ := vals2 r
  have e2 := k.eq r2
  subst e2
  cases ty with
  | base ty =>
    obtain ⟨P, Z, p, hx⟩ := kit_of I r1 ty
    exact PySem.W.kia_one Z I.kIn p e hx fun tk => ⟨.bl b, H, I.tok tk, rfl, q⟩
  | @exc0 a C ea c =>
    cases (show u1 = Value.ref a from r1)
    obtain ⟨o, J⟩ := exh_inst0 I ea
    obtain ⟨cd, hc, _⟩ := PySem.W.any_some c.hd
    exact PySem.W.kia_one (PySem.W.kitx_exc (by rw [hc]; rfl) c.hg c.hk c.hs c.ha c.hn c.ht c.hm) I.kIn J e (fun z => nomatch z) fun tk => ⟨.bl b, H, I.tok tk, rfl, q⟩
  | @exc a C dd fs ea ed c =>
    cases (show u1 = Value.ref a from r1)
    obtain ⟨o, od, mA, J, _⟩ := exh_inst I ea ed
    obtain ⟨cd, hc, _⟩ := PySem.W.any_some c.hd
    exact PySem.W.kia_one (PySem.W.kitx_exc (by rw [hc]; rfl) c.hg c.hk c.hs c.ha c.hn c.ht c.hm) I.kIn J e (fun z => nomatch z) fun tk => ⟨.bl b, H, I.tok tk, rfl, q⟩
end
/-- isinstance(x, c), c an own class (T none) or a built-in one; tab: the own classes' answers -/
def gIsQ (T : Option String) (tab : List (Str × Bool)) : D → Option D
  | .ins nm _ _ => (tab.lookup nm).map .bl
  | d => (tyn d).bind fun a => match T with
    | none => some (.bl false)
    | some t => (kitB a t).map .bl
/-- what is to be known of it -/
structure IsQ (K : PySem.W.Frag) (c : Value) (T : Option String) (tab : List (Str × Bool)) : Prop where
  ty : match T with
    | none => ∃ C : Addr, c = .ref C ∧ ∀ (d : D) (a : String), tyn d = some a → PySem.W.kitOne K (.type a) (.ref C) = some false
    | some t => c = .type t
  cl : ∀ (nm : Str) (b : Bool), tab.lookup nm = some b → ∃ C, ClsN K nm C ∧ ClsK K C ∧ PySem.W.kitOne K (.ref C) c = some b
theorem tyn_all {P : String → Prop} (h1 : P "NoneType") (h2 : P "bool") (h3 : P "int") (h4 : P "str") (h5 : P "tuple") (h6 : P "list") (h7 : P "dict") : ∀ (d : D) (a : String), tyn d = some a → P a := fun d a h => by
  unfold tyn at h
  split at h <;> first | (cases h; assumption) | cases h
section
variable {K : PySem.W.Frag} {S : Sx} {H : Hp}
theorem Rp.tyE (sh : Sub S.hp H) {v : V} {nm : Str} {ns : List Str} {ds : List D} {C : Addr} (r : Rp K S v (.ins nm ns ds)) (n : ClsN K nm C) (c : ClsK K C) : TyE K H v (.ref C) := by
  cases r with
  | ins h1 h2 h3 _ _ _ =>
    cases n.eq h2
    rcases c with ⟨_, c, i⟩ | ⟨x, _⟩
    · exact .base (.base (.ins (sh _ _ h1) c i.ha i.hn i.ht i.hm))
    · rw [h3] at x; cases x
  | exc h1 h2 h3 h4 _ _ _ =>
    cases n.eq h2
    rcases c with ⟨x, _⟩ | ⟨_, c⟩
    · rw [h3] at x; cases x
    · exact .exc (sh _ _ h1) (sh _ _ h4) c
  | exc0 h1 h2 h3 =>
    cases n.eq h2
    rcases c with ⟨x, _⟩ | ⟨_, c⟩
    · rw [h3] at x; cases x
    · exact .exc0 (sh _ _ h1) c
theorem isq_ok {c : Value} {T : Option String} {tab : List (Str × Bool)} (F : IsQ K c T tab) (sh : Sub S.hp H) {v : V} {d z : D} (r : Rp K S v d) (e : gIsQ T tab d = some z) : ∃ (t : Value) (b : Bool), TyE K H v t ∧ PySem.W.kitOne K t c = some b ∧ z = .bl b := by
  unfold gIsQ at e
  split at e
  · rename_i nm ns ds
    obtain ⟨b, eb, rfl⟩ := Option.map_eq_some_iff.mp e
    obtain ⟨C, n, c, k⟩ := F.cl _ _ eb
    exact ⟨_, b, r.tyE sh n c, k, rfl⟩
  · obtain ⟨a, ea, e⟩ := Option.bind_eq_some_iff.mp e
    have f := F.ty
    cases T with
    | none =>
      cases e
      obtain ⟨C, rfl, f⟩ := f
      exact ⟨_, false, .base (tyx sh r ea), f _ _ ea, rfl⟩
    | some t =>
      obtain ⟨b, eb, rfl⟩ := Option.map_eq_some_iff.mp e
      cases f
      exact ⟨_, b, .base (tyx sh r ea), kit_ty eb, rfl⟩
end
/-- a class's name in the module's or the built-in names -/
def ClG (mg : Str → Option Value) (x : Str) (c : Value) : Prop := (∃ C : Addr, c = .ref C ∧ mg x = some c) ∨ (mg x = none ∧ (∃ T, c = .type T) ∧ bootBuiltins x = some c ∧ x ≠ "__name__")
structure ClQ (K : PySem.W.Frag) (mg : Str → Option Value) (x : Str) (T : Option String) (tab : List (Str × Bool)) : Prop where
  ex : ∃ c : Value, ClG mg x c ∧ IsQ K c T tab
section
variable {X : Cx} {e : Expr} {fe : E} {x : Str} {T : Option String} {tab : List (Str × Bool)} {p p2 pos : Pos}
theorem pe_clv {c : Value} (h : ClG X.mg x c) (hg : Gl X x) (hd : (x == ("__debug__" : Str)) = false) : ∃ v : V, ClsV v c ∧ PE X (.Name x p) (tC v) := by
  rcases h with ⟨C, rfl, hm⟩ | ⟨hm, ⟨T, rfl⟩, hv, hn⟩
  · exact ⟨.ref C, .own C, ⟨fun pins s σ H Q I h => ld_glob I hg hm ⟨V.ref C, H, I, rfl, h⟩ hd⟩⟩
  · exact ⟨.ty T, .ty T, ⟨fun pins s σ H Q I h => ld_blt I hg hm hv ⟨V.ty T, H, I, rfl, h⟩ hn hd⟩⟩
theorem d_isQ (F : ClQ X.K X.mg x T tab) (hg : Gl X x) (hg2 : Gl X "isinstance") (hm2 : X.mg "isinstance" = none) (he : PE X e (TEv X.K fe)) (hd : (x == ("__debug__" : Str)) = false)
    (hs : starEach [e, .Name x p] X.env = (false, eval e X.env) :: starEach [.Name x p] X.env := by kernel_rfl!) (hs2 : starEach [.Name x p] X.env = (false, eval (.Name x p) X.env) :: starEach [] X.env := by kernel_rfl!) (hpl : (backTo pos (starEach [.Name x p] X.env)).any (·.1) = false := by kernel_rfl!) :
    PE X (.Call (.Name "isinstance" p2) [e, .Name x p] [] pos) (TEv X.K (eUn (gIsQ T tab) fe)) := by
  obtain ⟨c, hc, F⟩ := F.ex
  obtain ⟨v, hv, hpe⟩ := pe_clv (p := p) hc hg hd
  refine (pe_callB call_isE2 hg2 hm2 PyProof.Rows.Boot.«isinstance» (pa_cons he (pa_cons hpe pa_nil hs2) hs) (by decide) (by decide) hs hpl).imp fun σ H Q h => ?_
  obtain ⟨S, Fr, ρ, dk, d, ρ', dk', R, e, q⟩ := h
  unfold eUn at e
  obtain ⟨⟨d1, ρ1, k1⟩, e1, e⟩ := Option.bind_eq_some_iff.mp e
  obtain ⟨z, ez, e⟩ := Option.map_eq_some_iff.mp e
  cases e
  refine ⟨S, Fr, ρ, dk, d1, _, _, R, e1, fun u H1 S1 l1 R1 ru => ?_⟩
  obtain ⟨t, b, ty, k, rfl⟩ := isq_ok F R1.sh ru ez
  exact ⟨u, v, t, c, b, rfl, hv, ty, k, q _ H1 S1 l1 R1 (.bl b)⟩
end

/-! ## fields -/
def lkF : List Str → List D → Str → Option D
  | n :: ns, d :: ds, f => if f = n then some d else lkF ns ds f
  | _, _, _ => none
def gFld (nms : List Str) (f : Str) : D → Option D
  | .ins nm ns vs => if nms.contains nm = true then lkF ns vs f else none
  | _ => none
/-- the classes' instances have the field f of their own -/
def FldF (K : PySem.W.Frag) (nms : List Str) (f : Str) : Prop := ∀ nm, nms.contains nm = true → ∃ C, ClsN K nm C ∧ ((excG K C = false ∧ Cls K C ∧ NoAttr K C f) ∨ (excG K C = true ∧ XfC K C ∧ PySem.W.findIn K (.ref C) f = some none))
def rFld (K : PySem.W.Frag) (f : Str) : V → Hp → VK → Prop := fun x H1 Q => (∃ a C dx fs v, x = .ref a ∧ H1 a = some (.ins C dx fs) ∧ Cls K C ∧ NoAttr K C f ∧ fs.lookup f = some v ∧ Q v H1) ∨
  ∃ a C dd fs v, x = .ref a ∧ H1 a = some (exH a C (some dd)) ∧ H1 dd = some (.xd fs) ∧ XfC K C ∧ PySem.W.findIn K (.ref C) f = some none ∧ fs.lookup f = some v ∧ Q v H1
section
variable {X : Cx} {e : Expr} {te : TE} {f : Str} {pos : Pos}
theorem pe_fldE (he : PE X e te) (hb : attributeBase e f X.env (eval e X.env) = eval e X.env := by rfl) : PE X (.Attribute e f pos) (tUn (rFld X.K f) te) := by
  refine ⟨fun pins s σ H Q I h => ?_⟩
  refine attr_of hb (thn (he.run pins s σ H _ I h) fun u s1 ⟨x, H1, I1, rx, q⟩ => ?_)
  rcases q with ⟨a, C, dx, fs, v, ex, ea, c, n, l, q⟩ | ⟨a, C, dd, fs, v, ex, ea, ed, T, hno, l, q⟩
  · subst ex
    obtain rfl : u = Value.ref a := rx
    exact getattr_ok I1 ea c n l fun u' s2 I2 ru => ⟨v, H1, I2, ru, q⟩
  · subst ex
    obtain rfl : u = Value.ref a := rx
    obtain ⟨o, od, mA, J, hr, hl⟩ := exh_inst I1 ea ed
    obtain ⟨u, hu, ru⟩ := RelO.some_of (v := v) (o := mA f) (by rw [← l]; exact hr f)
    exact HandSPX.exc_get I1.kIn J T.ga T.gg T.exC (PySem.W.findObj_own T.hdC hno rfl (by rw [hl, hu])) (handed_of ru) ⟨v, H1, I1.tok _, ru, q⟩
theorem lkF_ok {K : PySem.W.Frag} {S : Sx} {f : Str} : ∀ {fs : List (Str × V)} {ds : List D} {d : D}, RpL K S (fs.map (·.2)) ds → lkF (fs.map (·.1)) ds f = some d → ∃ v, fs.lookup f = some v ∧ Rp K S v d
  | [], _, _, .nil, e => by cases e
  | (n, v) :: r, _, _, .cons h t, e => by
    unfold List.map lkF at e
    rw [lookup_put]
    by_cases q : f = n
    · rw [if_pos q] at e ⊢
      cases e
      exact ⟨v, rfl, h⟩
    · rw [if_neg q] at e ⊢
      exact lkF_ok t e
theorem fld_un {K : PySem.W.Frag} {nms : List Str} (F : FldF K nms f) : UnD K (rFld K f) (gFld nms f) := fun S H x d z Q sh r e q => by
  unfold gFld at e
  split at e
  case h_2 => cases e
  split at e
  case isFalse => cases e
  rename_i hc
  obtain ⟨C, n, c⟩ := F _ hc
  cases r with
  | ins h1 h2 h3 h4 h5 h6 =>
    cases n.eq h2
    subst h4 h5
    obtain ⟨v, l, rv⟩ := lkF_ok h6 e
    rcases c with ⟨_, c1, c2⟩ | ⟨x, _⟩
    · exact .inl ⟨_, _, _, _, v, rfl, sh _ _ h1, c1, c2, l, q _ S H (Grow.refl sh) rv⟩
    · rw [h3] at x; cases x
  | exc h1 h2 h3 h4 h5 h6 h7 =>
    cases n.eq h2
    subst h5 h6
    obtain ⟨v, l, rv⟩ := lkF_ok h7 e
    rcases c with ⟨x, _⟩ | ⟨_, c1, c2⟩
    · rw [h3] at x; cases x
    · exact .inr ⟨_, _, _, _, v, rfl, sh _ _ h1, sh _ _ h4, c1, c2, l, q _ S H (Grow.refl sh) rv⟩
  | exc0 h1 h2 h3 => unfold lkF at e; cases e
variable {nms : List Str} {fe : E} {fx : EX} {W : WX}
theorem d_fld (F : FldF X.K nms f) (he : PE X e (TEv X.K fe)) (hb : attributeBase e f X.env (eval e X.env) = eval e X.env := by rfl) : PE X (.Attribute e f pos) (TEv X.K (eUn (gFld nms f) fe)) := (pe_fldE he hb).imp fun _ _ _ h => tev_un (fld_un F) h
theorem d_xFld (F : FldF X.K nms f) (he : PE X e (TEx X.K W fx)) (hb : attributeBase e f X.env (eval e X.env) = eval e X.env := by rfl) : PE X (.Attribute e f pos) (TEx X.K W (xUn (gFld nms f) fx)) := (pe_fldE he hb).imp fun _ _ _ h => tex_un (fld_un F) h
end
end WS
namespace WS
open PySem PySem.Spec PyProof.Rows L2

/-! ## an own class's instances made: __init__(self, ..): checks, then self.f = x, .. -/
def spI (K : PySem.W.Frag) (nm : Str) (n : Nat) (f : Addr → FnX) : Sp := fun vs H Q E => ∃ (S : Sx) (F : Hp) (ds : List D) (dk : Dk) (r : Rs D) (dk' : Dk) (p C dx : Addr) (vs' : List V), vs = .ref p :: vs' ∧ vs'.length = n ∧ Rep K [] H S F [] dk ∧ RpL K S vs' ds ∧
  H p = some (.ins C dx []) ∧ ClsN K nm C ∧ excG K C = false ∧ S.hp p = none ∧ F p = none ∧ f p ds dk = some (r, dk') ∧
  match r with
  | .ok d => ∀ H' S', Le S S' → Rep K [] H' S' F [] dk' → Rp K S' (.ref p) d → Q .non H'
  | .ex C ns es => ∀ H' S' cls d, Le S S' → Rep K [] H' S' F [] dk' → ExRp K S' C ns es cls d → E cls d H'
def pickF (ρ : List Sl) : List (Str × Nat) → Option (List D)
  | [] => some []
  | (_, i) :: r => match ρ[i]? with
    | some (.val d) => (pickF ρ r).bind fun l => some (d :: l)
    | _ => none
def finI (nm : Str) (p : Addr) (fs : List (Str × Nat)) (o : Out × List Sl × Dk) : Option (Rs D × Dk) := match o.1 with
  | .nx => match (show Option Sl from o.2.1[0]?) with
    | some (.val (.obj q)) => if q = p then (pickF o.2.1 fs).bind fun l => some (.ok (.ins nm (fs.map (·.1)) l), o.2.2) else none
    | _ => none
  | .ex C ns ds => some (.ex C ns ds, o.2.2)
  | _ => none
def runI (nm : Str) (m : Nat) (front : SS) (fs : List (Str × Nat)) (p : Addr) : FnX := fun ds k => (front (st0 m (.obj p :: ds)) k).bind (finI nm p fs)
/-- wherever the instance lies -/
noncomputable def allA {α : Type} (f : Addr → Option α) : Option α := open Classical in if h : ∃ y, ∀ a, f a = some y then some h.choose else none
theorem allA_eq {α : Type} {f : Addr → Option α} {y : α} (h : ∀ a, f a = some y) : allA f = some y := by
  have hx : ∃ y, ∀ a, f a = some y := ⟨y, h⟩
  unfold allA
  rw [dif_pos hx]
  have e := hx.choose_spec 0
  rw [h 0] at e
  exact e.symm
theorem allA_at {α : Type} {f : Addr → Option α} {y : α} (h : allA f = some y) (a : Addr) : f a = some y := by
  unfold allA at h
  split at h
  · rename_i hx
    cases h
    exact hx.choose_spec a
  · cases h
noncomputable def mkF (f : Addr → FnX) : FnX := fun ds k => allA fun p => f p ds k
def tSets (K : PySem.W.Frag) : List (Str × Nat) → TS
  | [] => tNext
  | (f, i) :: r => tSeq (sFld K (tVar 0) (tVar i) f) (tSets K r)
section
variable {K : PySem.W.Frag} {σ : L2.St} {H : Hp} {S : Sx} {F : Hp} {ρ : List Sl} {dk : Dk} {W : WX}
theorem putF_new {f : Str} {v : V} : ∀ {fs : List (Str × V)}, f ∉ fs.map (·.1) → putF f v fs = fs ++ [(f, v)]
  | [], _ => rfl
  | (g, x) :: r, h => by
    simp only [List.map_cons, List.mem_cons, not_or] at h
    unfold putF
    rw [if_neg (Ne.symm h.1), putF_new h.2]
    rfl
/-- the stores -/
theorem sets_run {p C dx : Addr} {D' : Ends} (hC : Cls K C) (h0 : σ[0]? = some (some (V.ref p))) : ∀ {fs : List (Str × Nat)} {ds : List D} {H : Hp} {xs : List (Str × V)}, (∀ (i : Nat) (d : D), ρ[i]? = some (.val d) → ∃ v, σ[i]? = some (some v) ∧ Rp K S v d) → pickF ρ fs = some ds → (∀ x ∈ fs, NoAttr K C x.1) →
    (xs.map (·.1) ++ fs.map (·.1)).Nodup → xs.length + fs.length ≤ 100 → H p = some (.ins C dx xs) →
    (∀ zs : List (Str × V), zs.map (·.1) = xs.map (·.1) ++ fs.map (·.1) → (∃ ys, zs = xs ++ ys ∧ RpL K S (ys.map (·.2)) ds) → D'.nx σ (upd H p (.ins C dx zs))) → tSets K fs D' σ H
  | [], ds, H, xs, hv, e, hn, nd, hl, hp, q => by
    cases e
    have : upd H p (.ins C dx xs) = H := by
      funext b
      by_cases z : b = p
      · rw [z, upd_same, hp]
      · rw [upd_ne z]
    show D'.nx σ H
    rw [← this]
    exact q xs (by simp) ⟨[], by simp, .nil⟩
  | (f, i) :: r, ds, H, xs, hv, e, hn, nd, hl, hp, q => by
    unfold pickF at e
    split at e
    case h_2 => cases e
    rename_i d hd
    obtain ⟨l, el, e⟩ := Option.bind_eq_some_iff.mp e
    cases e
    obtain ⟨v, hσ, rv⟩ := hv i d hd
    have nf : f ∉ xs.map (·.1) := by
      have := List.nodup_append.mp nd
      intro z
      exact this.2.2 f z f (by simp) rfl
    refine ⟨v, hσ, V.ref p, h0, p, C, dx, xs, rfl, hp, hC, hn (f, i) (by simp), by simp at hl; omega, ?_⟩
    rw [putF_new nf]
    refine sets_run hC h0 (xs := xs ++ [(f, v)]) hv el (fun x hx => hn x (by simp [hx])) (by simpa using nd) (by simp at hl ⊢; omega) upd_same fun zs hz ⟨ys, hy, ry⟩ => ?_
    have : upd (upd H p (.ins C dx (xs ++ [(f, v)]))) p (.ins C dx zs) = upd H p (.ins C dx zs) := by
      funext b
      by_cases z : b = p
      · rw [z, upd_same, upd_same]
      · rw [upd_ne z, upd_ne z, upd_ne z]
    rw [this]
    exact q zs (by rw [hz]; simp) ⟨(f, v) :: ys, by rw [hy]; simp, .cons rv ry⟩
/-- a thing is framed -/
theorem Rep.framed {p : Addr} {o : HO} (r : Rep K [] H S F [] dk) (hp : H p = some o) (ho : ∀ kvs, o ≠ .dK kvs) (hl : ∀ xs, o ≠ .lst xs) (nS : S.hp p = none) : Rep K [] H S (upd F p o) [] dk := by
  refine ⟨r.sh, fun a u e => ?_, fun a u e => ?_, r.len, fun i s e => by simp at e, r.dist, ?_⟩
  · by_cases z : a = p
    · subst z; rw [upd_same] at e; cases e; exact hp
    · rw [upd_ne z] at e; exact r.fh _ _ e
  · by_cases z : a = p
    · subst z; exact nS
    · rw [upd_ne z] at e; exact r.fs _ _ e
  · have q := r.dka
    cases dk with
    | none => exact q
    | some x =>
      obtain ⟨cells, at_, sum⟩ := x
      obtain ⟨a, c, q1, q2, q3, q4, q5, q6, q7, q8, q9⟩ := q
      exact ⟨a, c, q1, q2, q3, q4, q5, by rw [upd_ne (fun z => by subst z; rw [hp] at q2; cases q2; exact ho _ rfl)]; exact q6, by rw [upd_ne (fun z => by subst z; rw [hp] at q3; cases q3; exact hl _ rfl)]; exact q7, q8, q9⟩
/-- the framed thing has changed, and is finished -/
theorem Rep.done {p : Addr} {o u : HO} (r : Rep K [] H S (upd F p o) [] dk) (ho : ∀ kvs, o ≠ .dK kvs) (hl : ∀ xs, o ≠ .lst xs) (nF : F p = none) : Rep K [] (upd H p u) (S.add p u) F [] dk := by
  have nS : S.hp p = none := r.fs p o upd_same
  have hp : H p = some o := r.fh p o upd_same
  have Fne : ∀ a w, F a = some w → a ≠ p := fun a w e z => by subst z; rw [nF] at e; cases e
  refine ⟨fun a w e => ?_, fun a w e => ?_, fun a w e => ?_, r.len, fun i s e => by simp at e, r.dist, ?_⟩
  · by_cases z : a = p
    · subst z; rw [Sx.add_at] at e; cases e; exact upd_same
    · rw [show (S.add p u).hp a = S.hp a from upd_ne z] at e
      rw [upd_ne z]; exact r.sh _ _ e
  · have ne := Fne a w e
    rw [upd_ne ne]
    exact r.fh a w (by rw [upd_ne ne]; exact e)
  · have ne := Fne a w e
    rw [show (S.add p u).hp a = S.hp a from upd_ne ne]
    exact r.fs a w (by rw [upd_ne ne]; exact e)
  · have q := r.dka
    cases dk with
    | none => exact q
    | some x =>
      obtain ⟨cells, at_, sum⟩ := x
      obtain ⟨a, c, q1, q2, q3, q4, q5, q6, q7, q8, q9⟩ := q
      have na : a ≠ p := fun z => by subst z; rw [hp] at q2; cases q2; exact ho _ rfl
      have nc : c ≠ p := fun z => by subst z; rw [hp] at q3; cases q3; exact hl _ rfl
      rw [upd_ne na] at q6
      rw [upd_ne nc] at q7
      exact ⟨a, c, q1, by rw [upd_ne na]; exact q2, by rw [upd_ne nc]; exact q3, by rw [show (S.add p u).hp a = S.hp a from upd_ne na]; exact q4, by rw [show (S.add p u).hp c = S.hp c from upd_ne nc]; exact q5, q6, q7, q8, q9⟩
theorem tsq_cons {a b : SS} {t : TS} {D' : Ends} (h : tSeq (TSv K W (sSeq a b)) t D' σ H) : tSeq (TSv K W a) (tSeq (TSv K W b) t) D' σ H := tsv_seq h
end
section
variable {X : Cx} {st : Stmt} {rest : List Stmt} {a b : SS} {t : TS} {W : WX} {f x : Str} {i : Nat} {fs : List (Str × Nat)} {y : Str} {p p' p2 pos : Pos}
theorem i_cons (h1 : PS X st (TSv X.K W a)) (h2 : PSs X rest (tSeq (TSv X.K W b) t)) : PSs X (st :: rest) (tSeq (TSv X.K W (sSeq a b)) t) := (pss_cons h1 h2).imp fun _ _ _ h => tsq_cons h
theorem i_nil (h : PSs X rest t) : PSs X rest (tSeq (TSv X.K W sNil) t) := h.imp fun D σ H q => by
  obtain ⟨S, F, ρ, dk, o, ρ', dk', R, e, q⟩ := q
  cases e
  exact q σ H S (Le.refl S) R
theorem i_set (hN0 : X.N[0]? = some y) (hv0 : Vis X.env.scope y) (hN : X.N[i]? = some x) (hv : Vis X.env.scope x) (hr : PSs X rest (tSets X.K fs))
    (hs : swapsWith (.Name x p2) (some (.Attribute (.Name y p) f p')) pos.line X.env = pure false := by kernel_rfl!) (hd0 : (y == ("__debug__" : Str)) = false := by decide) (hcd0 : (y == ("__classdict__" : Str)) = false := by decide) (hd : (x == ("__debug__" : Str)) = false := by decide) (hcd : (x == ("__classdict__" : Str)) = false := by decide) :
    PSs X (.Assign [.Attribute (.Name y p) f p'] (.Name x p2) pos :: rest) (tSets X.K ((f, i) :: fs)) := pss_cons (ps_fld (pe_var hN0 hv0 hd0 hcd0) (pe_var hN hv hd hcd) hs) hr
theorem i_end : PSs X [] (tSets X.K []) := pss_nil
end

/-- a class that may be made by its name -/
structure MkI (P : Program) (w : World) (K : PySem.W.Frag) (mg : Str → Option Value) (base : Heap) (k : Nat) (nm qual : Str) (n : Nat) (F : Addr → FnX) (st : Stmt) (ps : List Str) : Prop where
  ex : ∃ (C fI : Addr) (fd : FuncData), Mk K C fI ∧ FnG P w K mg base (L2.CX P w) k fI fd ps (spI K nm n F) ∧ mg nm = some (.ref C) ∧ ClsN K nm C ∧ excG K C = false ∧ Fun K "__init__" qual st fI fd
/-- what the text says of it -/
structure DfI (K : PySem.W.Frag) (mg : Str → Option Value) (nm qual : Str) (st : Stmt) (fs : List (Str × Nat)) : Prop where
  ex : ∃ (C fI : Addr) (fd : FuncData), Mk K C fI ∧ mg nm = some (.ref C) ∧ ClsN K nm C ∧ excG K C = false ∧ Fun K "__init__" qual st fI fd ∧ Cls K C ∧ ∀ x ∈ fs, NoAttr K C x.1
section
variable {P : Program} {w : World} {K : PySem.W.Frag} {mg : Str → Option Value} {base : Heap} {k : Nat}
theorem mki {nm qual : Str} {st : Stmt} {N ps : List Str} {fs : List (Str × Nat)} (front : SS) (n m : Nat) (D : DfI K mg nm qual st fs) (hnd : (fs.map (·.1)).Nodup) (hfl : fs.length ≤ 100) (SC : FnScope N ps (defScope st)) (hps : ps.length = n + 1) (hm : N.length = m) (hN : n + 1 ≤ m)
    (hb : ∀ (f : Addr) (cdv : Value) (A : Around) (outer : List Env) (s : Shared) (H : Hp) (E : XK) (W : WX), A.guards = some [] → Room k (A.deeper (envOfC qual (defScope st) s.heap.objs.size f cdv)) →
      Takes (cxOf (L2.CX P w) P w K mg base N qual (defScope st) f cdv A outer s H E) W →
      PSs (cxOf (L2.CX P w) P w K mg base N qual (defScope st) f cdv A outer s H E) (defBody st) (tSeq (TSv K W front) (tSets K fs))) : MkI P w K mg base (k + 1) nm qual n (runI nm m front fs) st ps := by
  subst hm
  obtain ⟨C0, fI, fd, M, hm, hn, hx, Fu, hC, hA⟩ := D.ex
  refine ⟨C0, fI, fd, M, ?_, hm, hn, hx, Fu⟩
  obtain ⟨oc, od, kV, doc, pm, an, cdv, ct, osl, rfl, found, code⟩ := Fu.ex
  refine fnG found code SC (fun vs H Q E h => ?_) fun A outer s H vs Q E hg hr h => ?_
  · obtain ⟨S, F, ds, dk, r, dk', p, C, dx, vs', rfl, hl, _⟩ := h
    rw [hps, List.length_cons, hl]
  obtain ⟨S, F, ds, dk, r, dk', p, C, dx, vs', rfl, hl, R, rv, hp, c, x, nS, nF, e, q⟩ := h
  cases hn.eq c
  refine ⟨_, hb fI cdv A outer s H E (fun cls d _ H => E cls d H) hg hr (takes_of rfl rfl rfl rfl), ?_⟩
  unfold runI at e
  obtain ⟨⟨o, ρ', k'⟩, eb, ee⟩ := Option.bind_eq_some_iff.mp e
  have R1 : Rep K [] H S (upd F p (.ins C0 dx [])) [] dk := R.framed hp (fun _ z => by cases z) (fun _ z => by cases z) nS
  have R0 := R1.enter (N := N) (.cons (.obj p) rv) (by rw [List.length_cons, hl]; exact hN)
  have off : ∀ {σ' : L2.St} {H' : Hp} {S' : Sx} {ρ' : List Sl} {k' : Dk}, Rep K σ' H' S' (upd F p (.ins C0 dx [])) ρ' k' → Rep K [] H' S' F [] k' := fun {σ' H' S' ρ' k'} r => by
    have d := r.drop
    have Fu : ∀ a w, F a = some w → upd F p (.ins C0 dx []) a = some w := fun a w eF => by
      have ne : a ≠ p := fun z => by rw [z, nF] at eF; cases eF
      rw [upd_ne ne]; exact eF
    refine ⟨d.sh, fun a w e => d.fh a w (Fu a w e), fun a w e => d.fs a w (Fu a w e), d.len, fun i s e => by simp at e, d.dist, ?_⟩
    have z := d.dka
    cases k' with
    | none => exact z
    | some y =>
      obtain ⟨cells, at_, sum⟩ := y
      obtain ⟨a, c, q1, q2, q3, q4, q5, q6, q7, q8, q9⟩ := z
      have no : ∀ b, upd F p (.ins C0 dx []) b = none → F b = none := fun b e => by
        by_cases z : b = p
        · rw [z]; exact nF
        · rw [upd_ne z] at e; exact e
      exact ⟨a, c, q1, q2, q3, q4, q5, no a q6, no c q7, q8, q9⟩
  refine ⟨S, _, st0 N.length (.obj p :: ds), dk, o, ρ', k', R0, eb, ?_⟩
  cases o with
  | nx =>
    unfold finI at ee
    dsimp only at ee
    split at ee
    case h_2 => cases ee
    rename_i p' h0
    split at ee
    case isFalse => cases ee
    rename_i hpp
    subst hpp
    obtain ⟨l, el, ee⟩ := Option.bind_eq_some_iff.mp ee
    cases ee
    intro σ' H' S' l' R'
    obtain ⟨v0, z0, rz⟩ := R'.env 0 _ h0
    cases rz
    have hp' : H' p' = some (.ins C0 dx []) := R'.fh _ _ upd_same
    refine sets_run (K := K) (S := S') (ρ := ρ') hC z0 (xs := []) (fun i d hd => R'.env i _ hd) el hA (by simpa using hnd) (by simpa using hfl) hp' fun zs hz ⟨ys, hy, ry⟩ => ?_
    have nF' : F p' = none := nF
    have Rd := (R'.drop).done (u := .ins C0 dx zs) (fun _ z => by cases z) (fun _ z => by cases z) nF'
    have nS' : S'.hp p' = none := R'.fs _ _ upd_same
    have l2 : Le S' (S'.add p' (.ins C0 dx zs)) := ⟨Sub.new nS', fun _ e => e⟩
    refine q _ _ (l'.trans l2) Rd (.ins Sx.add_at hn x (by rw [hz]; rfl) rfl ?_)
    have ezs : zs.map (·.2) = ys.map (·.2) := by rw [hy]; rfl
    rw [ezs]
    exact ry.mono l2
  | rt d' => cases ee
  | bk => cases ee
  | ct => cases ee
  | ex C ns es => cases ee; exact fun σ' H' S' cls d l R' x => q H' S' cls d l (off R') x
end
theorem make_guards {A : Around} {C : Addr} {us : List Value} {kw : List (Str × Value)} : (A.under (.builtin "type.__call__" ⟨.ref C :: us, kw⟩)).guards = A.guards := by
  first | rfl | simp [Around.under, Code.weight, Code.isCreation, Code.isGuard, Code.isCaller, Code.frames, Code.isFrame, guardIds]
section
variable {X : Cx} {k n : Nat} {nm qual : Str} {F : Addr → FnX} {st : Stmt} {ps ks : List Str} {E : L2.St → XK} {p pos : Pos} {e : Expr} {es : List Expr} {kws : List Keyword} {fl gl : EL} {W : WX} {π : List Nat}
theorem goI {C fI : Addr} {fd : FuncData} {sp : Sp} {pins : List (Addr × Obj)} {σ : L2.St} {H : Hp} {s : Shared} {Q : VK} {us zs : List Value} {vs : List V} {kw : List (Str × Value)} (M : Mk X.K C fI) (G : FnG X.prog X.w X.K X.mg X.base (L2.CX X.prog X.w) k fI fd ps sp) (hg : X.A.guards = some []) (hr : Room (k + 1) X.A)
    (hb : ∀ (s : Shared) (u : Value), BindsTo s fd ⟨u :: us, kw⟩ (ps.zip (u :: zs))) (hx : PassesAt (L2.CX X.prog X.w) X σ (E σ)) (I : Inv X pins σ H s) (r : Vals vs zs)
    (h : ∀ x dx, H x = none → H dx = none → dx ≠ x → sp (.ref x :: vs) (upd (upd H dx (.own x)) x (.ins C dx [])) (fun v H2 => v = .non ∧ Q (.ref x) H2) (E σ)) :
    wpAny (model X.prog X.w) X.A (call (.ref C) us kw) (EP X pins σ Q) X.xe s := by
  have hq := h (s.heap.objs.size + 1) s.heap.objs.size (I.hok.fresh (Nat.le_succ _)) (I.hok.fresh (Nat.le_refl _)) (Nat.ne_of_lt (Nat.lt_succ_self _))
  have I2 := Inv.made (C := C) I
  refine wpAny_call (make_map (f := fI) I.kIn M.makes M.init (beq_iff_eq.mp M.fn) (codeAny_mono (G.go _ X.stack _ _ ⟨Value.ref (s.heap.objs.size + 1) :: us, kw⟩ (Value.ref (s.heap.objs.size + 1) :: zs) (V.ref (s.heap.objs.size + 1) :: vs) _ (E σ) (by rw [make_guards]; exact hg) (hr.make C us kw)
    (I2.env0.make C us kw) (hb _ _) (.cons rfl r) hq) fun r s' hq' => ?_))
  cases r with
  | error e => exact hx pins _ _ e s' I2 hq'
  | ok fl =>
    cases fl with
    | ret u =>
      obtain ⟨v, H', I3, rv, ev, q3⟩ := I2.after hq'
      subst ev
      exact ⟨rv, ⟨V.ref (s.heap.objs.size + 1), H', I3, rfl, q3⟩⟩
    | next => exact False.elim hq'
    | brk => exact False.elim hq'
    | cont => exact False.elim hq'
theorem spI_go {K : PySem.W.Frag} {C : Addr} {σ : L2.St} {S : Sx} {H : Hp} {Fr : Hp} {ρ : List Sl} {dk dk' : Dk} {vs : List V} {ds : List D} {r : Rs D} {Q : VK} {x dx : Addr} (hn : ClsN K nm C) (hxg : excG K C = false) (R : Rep K σ H S Fr ρ dk) (rv : RpL K S vs ds) (hl : ds.length = n) (e : mkF F ds dk = some (r, dk'))
    (hx : H x = none) (hd : H dx = none) (hne : dx ≠ x)
    (q : match r with
      | .ok d => ∀ v H' S', Le S S' → Rep K σ H' S' Fr ρ dk' → Rp K S' v d → Q v H'
      | .ex C ns es => ∀ H' S' cls d, Le S S' → Rep K σ H' S' Fr ρ dk' → ExRp K S' C ns es cls d → W cls d σ H') :
    spI K nm n F (.ref x :: vs) (upd (upd H dx (.own x)) x (.ins C dx [])) (fun v H2 => v = .non ∧ Q (.ref x) H2) (WE W σ) := by
  have R1 := R.leave
  have hs : Sub H (upd (upd H dx (.own x)) x (.ins C dx [])) := (Sub.new hd).trans (Sub.new (by rw [upd_ne (Ne.symm hne)]; exact hx))
  have R2 := R1.grow (H' := upd (upd H dx (.own x)) x (.ins C dx [])) (S' := S) ⟨Sub.refl _, rfl, R.sh.trans hs, hs, fun _ _ _ z => z⟩
  have nF : ownF σ H Fr ρ x = none := by
    cases z : ownF σ H Fr ρ x with
    | none => rfl
    | some o => have := R1.fh _ _ z; rw [hx] at this; cases this
  refine ⟨S, _, ds, dk, r, dk', x, C, dx, vs, rfl, by rw [rv.length]; exact hl, R2, rv, upd_same, hn, hxg, R.sh.none hx, nF, allA_at e x, ?_⟩
  cases r with
  | ok d => exact fun H' S' l R' rp => ⟨rfl, q _ H' S' l (R.back l R') rp⟩
  | ex C ns es => exact fun H' S' cls d l R' x => q H' S' cls d l (R.back l R') x
theorem d_make (c : MkI X.prog X.w X.K X.mg X.base k nm qual n F st ps) (tk : Takes X W) (hgu : X.A.guards = some []) (hr : Room (k + 1) X.A) (hg : Gl X nm) (ha : PA X (e :: es) (TAv X.K fl)) (m1 : Nat) (h1 : ∀ ρ k y, fl ρ k = some y → y.1.length = m1)
    (hb : ∀ (kV doc pm : Value) (an : Option Addr) (cdv ct : Value) (u : Value) (us : List Value), us.length = m1 → bindArgs (PySem.W.fnOf "__init__" qual (defArgs st) (defBody st) (defScope st) .none kV doc pm an cdv ct) ⟨u :: us, []⟩ = pure (ps.zip (u :: us)))
    (hdb : (nm == ("__debug__" : Str)) = false := by decide) (he : starEach (e :: es) X.env = (false, eval e X.env) :: starEach es X.env := by kernel_rfl!) (hpl : (backTo pos (starEach es X.env)).any (·.1) = false := by kernel_rfl!) :
    PE X (.Call (.Name nm p) (e :: es) [] pos) (TEx X.K W (xCallF n (mkF F) fl)) := by
  obtain ⟨C, fI, fd, M, G, hm, hn, hxg, Fu⟩ := c.ex
  refine ⟨fun pins s σ H Q I h => ?_⟩
  refine wpAny_Call_Name_kw (ld_glob I hg hm ?_ hdb)
  have h' : TAv X.K fl σ H fun vs H1 => vs.length = m1 ∧ ∀ x dx, H1 x = none → H1 dx = none → dx ≠ x → spI X.K nm n F (.ref x :: vs) (upd (upd H1 dx (.own x)) x (.ins C dx [])) (fun v H2 => v = .non ∧ Q (.ref x) H2) (WE W σ) := by
    obtain ⟨S, Fr, ρ, dk, r, ρ', dk', R, e, q⟩ := h
    unfold xCallF at e
    obtain ⟨⟨ds, ρ1, k1⟩, e1, e⟩ := Option.bind_eq_some_iff.mp e
    split at e
    case isFalse => cases e
    rename_i hl
    obtain ⟨⟨r', k2⟩, e2, e⟩ := Option.bind_eq_some_iff.mp e
    cases e
    refine ⟨S, Fr, ρ, dk, ds, _, k1, R, e1, fun vs H1 S1 l1 R1 rv => ⟨rv.length.trans (h1 _ _ _ e1), fun x dx hx hd hne => spI_go hn hxg R1 rv hl e2 hx hd hne ?_⟩⟩
    cases r' with
    | ok d => exact fun v H' S' l R' rp => q v H' S' (l1.trans l) R' rp
    | ex C ns es => exact fun H' S' cls d l R' x => q H' S' cls d (l1.trans l) R' x
  refine PySem.W.callWith_K (h₀ := X.base) I.ok.mod.kin M.kp (thn (ha.run pos pins s σ H _ I h') fun us s1 ⟨vs, H1, I1, r, l1, q1⟩ => ⟨I1.kIn, ?_⟩) he hpl
  obtain ⟨oc, od, kV, doc, pm, an, cdv, ct, osl, rfl, lk, hcd⟩ := Fu.ex
  exact goI (E := WE W) M G hgu hr (fun s u => .of_eq (hb kV doc pm an cdv ct u us (r.length.symm.trans l1))) (passAt tk σ) I1 r q1
/-- by names alone -/
def xCallK (n : Nat) (F : FnX) (π : List Nat) (a b : EL) : EX := fun ρ k => (a ρ k).bind fun x => (b x.2.1 x.2.2).bind fun y => if (prm π (x.1 ++ y.1)).length = n then (F (prm π (x.1 ++ y.1)) y.2.2).bind fun z => some (z.1, y.2.1, z.2) else none
theorem d_makeK0 (c : MkI X.prog X.w X.K X.mg X.base k nm qual n F st ps) (tk : Takes X W) (hgu : X.A.guards = some []) (hr : Room (k + 1) X.A) (hg : Gl X nm) (hkw : PK X kws (TAv X.K gl)) (m2 : Nat) (h2 : ∀ ρ k y, gl ρ k = some y → y.1.length = m2)
    (hb : ∀ (kV doc pm : Value) (an : Option Addr) (cdv ct : Value) (u : Value) (ws : List Value), ws.length = m2 → bindArgs (PySem.W.fnOf "__init__" qual (defArgs st) (defBody st) (defScope st) .none kV doc pm an cdv ct) ⟨[u], ks.zip ws⟩ = pure (ps.zip (u :: prm π ws)))
    (hall : (backToKw pos (keywordEach kws X.env)).all (·.1.isSome) = true := by kernel_rfl!) (hks : (backToKw pos (keywordEach kws X.env)).filterMap (·.1) = ks := by kernel_rfl!)
    (hdb : (nm == ("__debug__" : Str)) = false := by decide)
    (hpl : ((backTo pos (starEach [] X.env)).any (·.1) || (backToKw pos (keywordEach kws X.env)).any (·.1.isNone)) = false := by kernel_rfl!) :
    PE X (.Call (.Name nm p) [] kws pos) (TEx X.K W (xCallK n (mkF F) π aNil gl)) := by
  obtain ⟨C, fI, fd, M, G, hm, hn, hxg, Fu⟩ := c.ex
  refine ⟨fun pins s σ H Q I h => ?_⟩
  refine wpAny_Call_Name_kw (ld_glob I hg hm ?_ hdb)
  have h' : TAv X.K gl σ H fun zs H1 => zs.length = m2 ∧ ∀ x dx, H1 x = none → H1 dx = none → dx ≠ x → spI X.K nm n F (.ref x :: prm π zs) (upd (upd H1 dx (.own x)) x (.ins C dx [])) (fun v H2 => v = .non ∧ Q (.ref x) H2) (WE W σ) := by
    obtain ⟨S, Fr, ρ, dk, r, ρ', dk', R, e, q⟩ := h
    unfold xCallK aNil at e
    simp only [Option.bind_some, List.nil_append] at e
    obtain ⟨⟨ds, ρ1, k1⟩, e1, e⟩ := Option.bind_eq_some_iff.mp e
    split at e
    case isFalse => cases e
    rename_i hl
    obtain ⟨⟨r', k2⟩, e2, e⟩ := Option.bind_eq_some_iff.mp e
    cases e
    refine ⟨S, Fr, ρ, dk, ds, _, k1, R, e1, fun vs H1 S1 l1 R1 rv => ⟨rv.length.trans (h2 _ _ _ e1), fun x dx hx hd hne => spI_go hn hxg R1 (prm_rpl rv) hl e2 hx hd hne ?_⟩⟩
    cases r' with
    | ok d => exact fun v H' S' l R' rp => q v H' S' (l1.trans l) R' rp
    | ex C ns es => exact fun H' S' cls d l R' x => q H' S' cls d (l1.trans l) R' x
  refine PySem.W.callWith_KW0 (h₀ := X.base) I.ok.mod.kin M.kp hall (thn (hkw.run pos pins s σ H _ I h') fun ws s2 ⟨zs, H2, I2, rz, l2, q2⟩ => ⟨I2.kIn, ?_⟩) hpl
  rw [hks]
  obtain ⟨oc, od, kV, doc, pm, an, cdv, ct, osl, rfl, lk, hcd⟩ := Fu.ex
  exact goI (E := WE W) (us := []) M G hgu hr (fun s u => .of_eq (hb kV doc pm an cdv ct u ws (rz.length.symm.trans l2))) (passAt tk σ) I2 (prm_vals rz) q2
end
end WS
namespace WS
open PySem PySem.Spec PyProof.Rows L2

/-! ## calls within an except suite, of defs that neither raise nor walk -/
abbrev RoomQ := L2H.RoomH
structure FnQ (P : Program) (w : World) (K : PySem.W.Frag) (mg : Str → Option Value) (base : Heap) (k : Nat) (f : Addr) (fd : FuncData) (ps : List Str) (sp : Sp) : Prop where
  many : ∀ vs H Q E, sp vs H Q E → vs.length = ps.length
  go : ∀ (A : Around) (outer : List Env) (s : Shared) (H : Hp) (args : Args) (us : List Value) (vs : List V) (Q : VK) (E : XK), A.guards = some [] → RoomQ k A →
    Env0 P w K mg base A outer s H → BindsTo s fd args (ps.zip us) → Vals vs us → sp vs H Q E → codeAny (model P w) A (.call (.ref f) args) (CR CX0 outer P w H s Q E) s
/-- the context of such a def's body -/
def cxQ (P : Program) (w : World) (K : PySem.W.Frag) (mg : Str → Option Value) (base : Heap) (N : List Str) (qual : Str) (scope : Scope) (f : Addr) (cd : Value) (A : Around) (outer : List Env) (s : Shared) (H : Hp) (E : XK) : Cx :=
  { cxOf CX0 P w K mg base N qual scope f cd A outer s H E with calm := false }
theorem inv_startQ {P : Program} {w : World} {K : PySem.W.Frag} {mg : Str → Option Value} {base : Heap} {N ps : List Str} {qual : Str} {scope : Scope} {f : Addr} {cd : Value} {A : Around} {outer : List Env} {s s1 : Shared} {H : Hp} {E : XK} {us : List Value} {vs : List V}
    (S : FnScope N ps scope) (e0 : Env0 P w K mg base A outer s H) (hl : vs.length = ps.length) (r : Vals vs us)
    (x : InCallC s s.heap.objs.size (bindL (envOfC qual scope s.heap.objs.size f cd).kindOf (ps.zip us) fun _ => none) (cellsFrom (s.heap.objs.size + 1) scope.names []) (bindC (envOfC qual scope s.heap.objs.size f cd).kindOf (ps.zip us) fun _ => none) s1) :
    L2.Inv (cxQ P w K mg base N qual scope f cd A outer s H E) [] (L2.start N vs) H s1 := by
  have hpl : ps.length ≤ N.length := by have := congrArg List.length S.pre; rw [List.length_take] at this; omega
  obtain ⟨h1, tk, rfl, hk⟩ := x.done
  have noA : ∀ b : Addr, b ∉ (cxQ P w K mg base N qual scope f cd A outer s H E).ex := fun b z => absurd (show b ∈ ([] : List Addr) from z) (by simp)
  refine ⟨⟨e0.mod, S.kind, rfl, rfl, Nat.le_refl _, fun y z c h1 h2 => ?_, fun y hy => ?_, fun y c _ h => ?_, (fun z => Bool.noConfusion (show false = true from z)), Around.frames_deeper e0.frames, .inr ⟨rfl, rfl⟩, fun b z => absurd z (noA b), e0.bs, e0.bsz, fun b _ _ => noA b, fun b z => absurd z (noA b), e0.funs, e0.frf⟩,
    rfl, e0.bare, Un.kept hk, ⟨_, x.toInCall.ns, fun i y v h1 h2 h3 => ?_⟩, fun y c h => ⟨_, x.cell y c h⟩, e0.hok.fresh (Nat.le_refl _), fun y c h => ?_, fun q hq => absurd (show q ∈ ([] : List (Addr × Obj)) from hq) (by simp), e0.hok.kept hk, ?_⟩
  · exact name_of_addr x.apart (PySem.mem_of_lookup h1) (PySem.mem_of_lookup h2)
  · have hy : scope.names.lookup y = some .cell ∨ scope.names.lookup y = some .free := hy
    rcases hy with hy | hy
    · exact cell_has hy
    · exact absurd rfl (S.nofree _ (PySem.mem_of_lookup hy))
  · exact Nat.le_of_lt (x.above y c (PySem.mem_of_lookup h))
  · have hi : i < vs.length := by
      unfold L2.start at h2
      by_cases hi : i < vs.length
      · exact hi
      · rw [List.getElem?_append_right (by simpa using hi)] at h2
        rw [List.getElem?_replicate] at h2
        split at h2 <;> cases h2
    have ha : vs[i]? = some v := by
      unfold L2.start at h2
      rw [List.getElem?_append_left (by simpa using hi), List.getElem?_map] at h2
      cases e : vs[i]? with
      | none => rw [e] at h2; cases h2
      | some a => rw [e] at h2; cases h2; rfl
    obtain ⟨u, hu, rv⟩ := r.get ha
    have hp : ps[i]? = some y := by
      rw [← S.pre, List.getElem?_take_of_lt (by omega)]; exact h1
    have ndP : ps.Nodup := by rw [← S.pre]; exact S.nd.sublist (List.take_sublist _ _)
    refine ⟨u, rv, ?_⟩
    rcases S.par y (List.mem_of_getElem? hp) with k | k
    · exact .inl ⟨k, bindL_get ndP hp hu k⟩
    · obtain ⟨c, e⟩ := cell_has (n := s.heap.objs.size + 1) k
      refine .inr ⟨.inl k, c, e, ?_⟩
      have q := x.cell y c e
      rw [bindC_get ndP hp hu (by show scope.names.lookup y ≠ _; rw [k]; decide)] at q
      exact q
  · exact e0.hok.fresh (Nat.le_of_lt (x.above y c (PySem.mem_of_lookup h)))
  · unfold L2.start
    show _ = N.length
    rw [List.length_append, List.length_map, List.length_replicate]
    omega
section
variable {P : Program} {w : World} {K : PySem.W.Frag} {mg : Str → Option Value} {base : Heap} {k : Nat} {f : Addr} {fd : FuncData} {ps : List Str} {sp : Sp}
theorem FnQ.up {j : Nat} (F : FnQ P w K mg base j f fd ps sp) (h : j ≤ k) : FnQ P w K mg base k f fd ps sp :=
  { many := F.many, go := fun A outer s H args us vs Q E hg hr e b v q => F.go A outer s H args us vs Q E hg (hr.mono h) e b v q }
theorem fnQ0 {x qual : Str} {st : Stmt} {N : List Str} (Fu : Fun K x qual st f fd) (SC : FnScope N ps (defScope st)) (many : ∀ vs H Q E, sp vs H Q E → vs.length = ps.length)
    (hb : ∀ (cdv : Value) (A : Around) (outer : List Env) (s : Shared) (H : Hp) (vs : List V) (Q : VK) (E : XK), A.guards = some [] → RoomQ k (A.deeper (envOfC qual (defScope st) s.heap.objs.size f cdv)) → sp vs H Q E →
      ∃ t, PSs (cxQ P w K mg base N qual (defScope st) f cdv A outer s H E).nox (defBody st) t ∧ t { nx := fun _ H' => Q .non H', rt := Q } (L2.start N vs) H) : FnQ P w K mg base (k + 1) f fd ps sp where
  many := many
  go := fun A outer s H args us vs Q E hg hr e0 bd rv hsp => by
    obtain ⟨oc, od, kV, doc, pm, an, cdv, ct, osl, rfl, found, code⟩ := Fu.ex
    have hlen := many vs H Q E hsp
    have inK : K.In s.heap := e0.mod.kin.keeps fun b o e => (e0.bs b o e).1
    have noL : s.heap.NoLimit := e0.mod.nolimit.keeps fun b o e => (e0.bs b o e).1
    have kinds : ∀ y ∈ ps.zip us, (defScope st).names.lookup y.1 = some .local ∨ ((defScope st).names.lookup y.1 = some .cell ∧ ((cellsFrom (s.heap.objs.size + 1) (defScope st).names []).lookup y.1).isSome = true) := by
      intro y hy
      obtain ⟨n, v⟩ := y
      have hn : n ∈ ps := (List.of_mem_zip hy).1
      cases SC.par n hn with
      | inl q => exact Or.inl q
      | inr q => exact Or.inr ⟨q, PySem.W.cellsFrom_some _ _ _ (.inl q)⟩
    refine codeAny_call_function hr.depth (inK _ _ found) rfl SC.co SC.gen rfl (PySem.W.codeRec_of inK code) (bd _ _ _ _ ?_)
    refine wpAny_newFunctionEnv_cells SC.kind kinds fun env henv s1 inCall => ?_
    subst henv
    refine ⟨noL.keeps inCall.toInCall.keep, codeAny_func ?_⟩
    obtain ⟨t, ht, hq⟩ := hb cdv A outer s H vs Q E hg (hr.deeper _) hsp
    have J0 := inv_startQ (P := P) (w := w) (K := K) (mg := mg) (base := base) (qual := qual) (f := f) (cd := cdv) (E := E) SC e0 hlen rv inCall
    refine wpAny_mono (ht.nox.run [] s1 (L2.start N vs) H _ J0 hq) ?_ (fun e s' he => he)
    intro fl s' hs
    cases fl with
    | ret u =>
      obtain ⟨v, σ', H', J, r', q⟩ := hs
      exact ⟨v, H', J.os, J.bare, J.base, J.hok, r', q⟩
    | next =>
      obtain ⟨σ', H', J, q⟩ := hs
      exact ⟨V.non, H', J.os, J.bare, J.base, J.hok, rfl, q⟩
    | brk => obtain ⟨_, _, _, q⟩ := hs; exact q.elim
    | cont => obtain ⟨_, _, _, q⟩ := hs; exact q.elim
end
/-- such a def, under its name -/
structure CwQ (P : Program) (w : World) (K : PySem.W.Frag) (mg : Str → Option Value) (base : Heap) (k : Nat) (x : Str) (n : Nat) (F : Fn) : Prop where
  ex : ∃ (f : Addr) (fd : FuncData) (ps : List Str), FnQ P w K mg base k f fd ps (spS K n F) ∧ mg x = some (.ref f) ∧ PySem.W.keepIn K (.ref f) = true ∧ Binds K fd ps []
section
variable {P : Program} {w : World} {K : PySem.W.Frag} {mg : Str → Option Value} {base : Heap} {k : Nat}
theorem CwQ.up {j k n : Nat} {x : Str} {F : Fn} (c : CwQ P w K mg base j x n F) (h : j ≤ k) : CwQ P w K mg base k x n F := by
  obtain ⟨f, fd, ps, a, b⟩ := c.ex
  exact ⟨f, fd, ps, a.up h, b⟩
theorem clQ {x : Str} {st : Stmt} {N ps : List Str} (body : SS) (n m : Nat) (D : Df K mg x st) (SC : FnScope N ps (defScope st)) (hps : ps.length = n) (hm : N.length = m) (hN : n ≤ m)
    (hbind : ∀ (kV doc pm : Value) (an : Option Addr) (cdv ct : Value) (us : List Value), us.length = ps.length → bindArgs (PySem.W.fnOf x x (defArgs st) (defBody st) (defScope st) .none kV doc pm an cdv ct) ⟨us, []⟩ = pure (ps.zip us))
    (hb : ∀ (f : Addr) (cdv : Value) (A : Around) (outer : List Env) (s : Shared) (H : Hp) (E : XK), A.guards = some [] → RoomQ k (A.deeper (envOfC x (defScope st) s.heap.objs.size f cdv)) →
      PSs (cxQ P w K mg base N x (defScope st) f cdv A outer s H E).nox (defBody st) (TSv K W0 body)) : CwQ P w K mg base (k + 1) x n (runS m body) := by
  subst hm
  obtain ⟨f, fd, Fu, mm⟩ := D
  refine ⟨f, fd, ps, fnQ0 Fu SC (fun vs H Q E h => h.1.trans hps.symm) fun cdv A outer s H vs Q E hg hr h => ?_, mm, Fu.kp, Fu.binds hbind⟩
  obtain ⟨hl, S, F, ds, dk, d, dk', R, rv, e, q⟩ := h
  refine ⟨_, hb f cdv A outer s H E hg hr, ?_⟩
  unfold runS at e
  obtain ⟨⟨o, ρ', k'⟩, eb, e⟩ := Option.bind_eq_some_iff.mp e
  refine ⟨S, F, _, dk, o, ρ', k', R.enter rv (by omega), eb, ?_⟩
  cases o with
  | nx => cases e; exact fun σ' H' S' l R' => q _ H' S' l R'.drop .non
  | rt d' => cases e; exact fun v σ' H' S' l R' rv' => q v H' S' l R'.drop rv'
  | bk => cases e
  | ct => cases e
  | ex C ns ds => cases e
end
section
variable {X : Cx} {k n : Nat} {f : Addr} {fd : FuncData} {ps : List Str} {sp : Sp} {x : Str} {p pos : Pos} {e : Expr} {es : List Expr} {t : TA} {fs : EL} {F : Fn}
theorem callQ (G : FnQ X.prog X.w X.K X.mg X.base k f fd ps sp) (hgu : X.A.guards = some []) (hr : RoomQ k X.A) (hg : Gl X x) (hm : X.mg x = some (.ref f)) (hk : PySem.W.keepIn X.K (.ref f) = true) (hb : Binds X.K fd ps [])
    (ha : PA X (e :: es) t) (hdb : (x == ("__debug__" : Str)) = false := by decide) (he : starEach (e :: es) X.env = (false, eval e X.env) :: starEach es X.env := by rfl) (hpl : (backTo pos (starEach es X.env)).any (·.1) = false := by rfl) :
    PE X (.Call (.Name x p) (e :: es) [] pos) (tCall sp [] E0 t) := ⟨fun pins s σ H Q I h =>
  wpAny_Call_Name_kw (ld_glob I hg hm (PySem.W.callWith_K (h₀ := X.base) I.ok.mod.kin hk (thn (ha.run pos pins s σ H _ I h) fun us s1 ⟨vs, H1, I1, r, q⟩ => ⟨I1.kIn, by
    have q' : sp vs H1 Q E0 := by have z : sp (vs ++ []) H1 Q E0 := q; rw [List.append_nil] at z; exact z
    have ll : (us ++ []).length = ps.length := by rw [List.append_nil, ← r.length]; exact G.many _ _ _ _ q'
    have b := hb s1 us I1.kIn ll
    rw [List.append_nil] at b
    refine wpAny_call (codeAny_mono (G.go X.A X.stack s1 H1 ⟨us, []⟩ _ _ Q E0 hgu hr I1.env0 b r q') ?_)
    intro res s' hq
    cases res with
    | error err => exact hq.elim
    | ok fl =>
      cases fl with
      | ret u => exact I1.after hq
      | next => exact hq.elim
      | brk => exact hq.elim
      | cont => exact hq.elim⟩) he hpl) hdb)⟩
theorem d_callQ (c : CwQ X.prog X.w X.K X.mg X.base k x n F) (hgu : X.A.guards = some []) (hr : RoomQ k X.A) (hg : Gl X x) (ha : PA X (e :: es) (TAv X.K fs)) (hdb : (x == ("__debug__" : Str)) = false) (he : starEach (e :: es) X.env = (false, eval e X.env) :: starEach es X.env) (hpl : (backTo pos (starEach es X.env)).any (·.1) = false) :
    PE X (.Call (.Name x p) (e :: es) [] pos) (TEv X.K (eCallF n F fs)) := by
  obtain ⟨f, fd, ps, G, m, hk, hb⟩ := c.ex
  exact (callQ G hgu hr hg m hk hb ha hdb he hpl).imp fun _ _ _ h => tev_callF h
end
theorem roomQ_mark {k : Nat} {A : Around} {v : Option Value} (r : Room k A) : RoomQ k (A.mark v) := ⟨r.dp, r.un⟩
theorem roomQ_mark' {k : Nat} {A : Around} {v : Option Value} (r : RoomQ k A) : RoomQ k (A.mark v) := ⟨r.dp, r.un⟩
theorem mark_guards {A : Around} {v : Option Value} (h : A.guards = some []) : (A.mark v).guards = some [] := h
end WS
namespace WS
open PySem PySem.Spec PyProof.Rows L2

/-! ## 'lit' + str(row) -/
def okI : V → Prop := fun v => ∃ i : Int, v = .int i ∧ i.natAbs ≤ 10 ^ 55
def okDI : D → Bool
  | .int i => decide (i.natAbs ≤ 10 ^ 55)
  | _ => false
theorem okI_ok {K : PySem.W.Frag} : ∀ (S : Sx) (v : V) (d : D), Rp K S v d → okDI d = true → okI v := fun S v d r h => by
  unfold okDI at h
  split at h
  · cases r; exact ⟨_, rfl, of_decide_eq_true h⟩
  · cases h
def tTxt (lit : Str) : TE := tOp (fun x y H Q => ∃ i j, x = .str i ∧ y = .str j ∧ i.length + j.length ≤ sizeLine ∧ Q (.str (i ++ j)) H) (tC (.str lit)) (tCB (fun xs H Q => ∃ i, xs = [.int i] ∧ i.natAbs.log2 < 1920 ∧ Q (.str (toString i)) H) (tCons (tVar 1) tNil))
theorem log_small {n : Nat} (h : n ≤ 10 ^ 55) : n.log2 < 1920 := by
  by_cases z : n = 0
  · subst z; decide
  · rw [Nat.log2_lt z]
    exact Nat.lt_of_le_of_lt h (by decide +kernel)
theorem txt_ok {K : PySem.W.Frag} {lit : Str} (h : lit.length ≤ 1000) : TxtT K okI (tTxt lit) := fun σ H Q v e ⟨i, ev, hi⟩ q => by
  subst ev
  refine ⟨_, e, i, rfl, log_small hi, lit, _, rfl, rfl, ?_, q _⟩
  have hl := len_int hi
  have : (Str.ofString (toString i)).length ≤ 57 := hl
  rw [sizeLine_eq]
  show lit.length + (Str.ofString (toString i)).length ≤ _
  omega
section
variable {X : Cx} {lit x : Str} {j} {p1 p2 p3 pos : Pos}
theorem pe_txt (hg : Gl X "str") (hm : X.mg "str" = none) (hN : X.N[1]? = some x) (hv : Vis X.env.scope x) (hd : (x == ("__debug__" : Str)) = false := by decide) (hcd : (x == ("__classdict__" : Str)) = false := by decide)
    (he : starEach [.Name x p3] X.env = (false, eval (.Name x p3) X.env) :: starEach [] X.env := by rfl) (hpl : (backTo p2 (starEach [] X.env)).any (·.1) = false := by rfl) :
    PE X (.BinOp (.Constant (.str lit) j p1) .Add (.Call (.Name "str" pos) [.Name x p3] [] p2) pos) (tTxt lit) :=
  pe_op op_add_str pe_str (pe_callTy call_str_int hg hm PyProof.Rows.Boot.«str» (pa_cons (pe_var hN hv hd hcd) pa_nil he) (by decide) (by decide) he hpl)
theorem pe_txt' {p0 : Pos} (hg : Gl X "str") (hm : X.mg "str" = none) (hN : X.N[1]? = some x) (hv : Vis X.env.scope x) (hd : (x == ("__debug__" : Str)) = false := by decide) (hcd : (x == ("__classdict__" : Str)) = false := by decide)
    (he : starEach [.Name x p3] X.env = (false, eval (.Name x p3) X.env) :: starEach [] X.env := by rfl) (hpl : (backTo p2 (starEach [] X.env)).any (·.1) = false := by rfl) :
    PE X (.BinOp (.Constant (.str lit) j p1) .Add (.Call (.Name "str" p0) [.Name x p3] [] p2) pos) (tTxt lit) :=
  pe_op op_add_str pe_str (pe_callTy call_str_int hg hm PyProof.Rows.Boot.«str» (pa_cons (pe_var hN hv hd hcd) pa_nil he) (by decide) (by decide) he hpl)
end

/-! ## raise C('text'), C without an own __init__ -/
structure Exp (K : PySem.W.Frag) (mg : Str → Option Value) (nm : Str) : Prop where
  ex : ∃ C : Addr, PySem.W.excIn K C (["ValueError", "Exception", "BaseException", "object"].map Value.type) "ValueError.__new__" = true ∧ excG K C = true ∧ mg nm = some (.ref C) ∧ ClsN K nm C ∧ PySem.W.keepIn K (.ref C) = true ∧ PySem.W.subIn K (.ref C) (.type "BaseException") = some true ∧ PySem.W.typeIn K (.ref C) = some (.type "type")
def sRaise0 (nm : Str) : SS := fun ρ k => some (.ex nm [] [], ρ, k)
section
variable {X : Cx} {nm m : Str} {j} {W : WX} {p p2 pos pos' : Pos}
theorem s_raise0 (M : Exp X.K X.mg nm) (hc : X.calm = true) (tk : Takes X W) (hg : Gl X nm) (hdb : (nm == ("__debug__" : Str)) = false := by decide) :
    PS X (.Raise (some (.Call (.Name nm p) [.Constant (.str m) j p2] [] pos)) none pos') (TSv X.K W (sRaise0 nm)) := by
  obtain ⟨C, q, xg, hm, hn, hk, hs, ht⟩ := M.ex
  refine (ps_raise hc tk (pmk_own F.excBase_ValueError q hm hk (raises_own hs ht) hg hdb)).imp fun D' σ H h => ?_
  obtain ⟨S, F, ρ, dk, o, ρ', dk', R, e, q⟩ := h
  cases e
  exact q σ H S (.ref C) none (Le.refl S) R ⟨C, rfl, hn, xg, .inl ⟨rfl, rfl, rfl⟩⟩
end

/-! ## facts by lists -/
def QTab (K : PySem.W.Frag) (c : Value) : List (Str × Bool) → Prop
  | [] => True
  | x :: r => (∃ C, ClsN K x.1 C ∧ PySem.W.kitOne K (.ref C) c = some x.2) ∧ QTab K c r
def YTab (K : PySem.W.Frag) (c : Value) : List (Str × Bool) → Prop
  | [] => True
  | x :: r => (∃ C, ClsN K x.1 C ∧ PySem.W.exmOne K (.ref C) c = some x.2) ∧ YTab K c r
def KCs (K : PySem.W.Frag) : List Str → Prop
  | [] => True
  | x :: r => (∃ C, ClsN K x C ∧ ClsK K C) ∧ KCs K r
def FTab (K : PySem.W.Frag) (f : Str) : List Str → Prop
  | [] => True
  | x :: r => (∃ C, ClsN K x C ∧ ((excG K C = false ∧ Cls K C ∧ NoAttr K C f) ∨ (excG K C = true ∧ XfC K C ∧ PySem.W.findIn K (.ref C) f = some none))) ∧ FTab K f r
def NAs (K : PySem.W.Frag) (C : Addr) : List (Str × Nat) → Prop
  | [] => True
  | x :: r => PySem.W.findIn K (.ref C) x.1 = some none ∧ NAs K C r
theorem lk_cons {a nm : Str} {b0 b : Bool} {r : List (Str × Bool)} (h : ((a, b0) :: r).lookup nm = some b) : (nm = a ∧ b0 = b) ∨ r.lookup nm = some b := by
  rw [List.lookup_cons] at h
  split at h
  · rename_i e
    cases h
    exact .inl ⟨beq_iff_eq.mp e, rfl⟩
  · exact .inr h
theorem YTab.yes {K : PySem.W.Frag} {c : Value} : ∀ {l : List (Str × Bool)}, YTab K c l → YesC K c l
  | [], _, nm, b, C, h, _ => by cases h
  | (a, b0) :: r, ⟨⟨C0, n0, e0⟩, t⟩, nm, b, C, h, n => by
    rcases lk_cons h with ⟨rfl, rfl⟩ | h
    · cases n0.eq n; exact e0
    · exact YTab.yes t nm b C h n
theorem KCs.at {K : PySem.W.Frag} {nm : Str} : ∀ {l : List Str}, KCs K l → nm ∈ l → ∃ C, ClsN K nm C ∧ ClsK K C
  | a :: r, ⟨h, t⟩, hm => by
    rcases List.mem_cons.mp hm with e | hm
    · subst e; exact h
    · exact KCs.at t hm
theorem QTab.cl {K : PySem.W.Frag} {c : Value} {ns : List Str} (k : KCs K ns) : ∀ {l : List (Str × Bool)}, QTab K c l → (∀ x ∈ l, x.1 ∈ ns) → ∀ (nm : Str) (b : Bool), l.lookup nm = some b → ∃ C, ClsN K nm C ∧ ClsK K C ∧ PySem.W.kitOne K (.ref C) c = some b
  | [], _, _, nm, b, h => by cases h
  | (a, b0) :: r, ⟨⟨C0, n0, e0⟩, t⟩, hs, nm, b, h => by
    rcases lk_cons h with ⟨rfl, rfl⟩ | h
    · obtain ⟨C, n, c⟩ := k.at (hs (nm, b0) List.mem_cons_self)
      cases n0.eq n
      exact ⟨C0, n0, c, e0⟩
    · exact QTab.cl k t (fun x hx => hs x (List.mem_cons_of_mem _ hx)) nm b h
theorem FTab.fld {K : PySem.W.Frag} {f : Str} : ∀ {l : List Str}, FTab K f l → FldF K l f
  | [], _, nm, h => by cases h
  | a :: r, ⟨h0, t⟩, nm, h => by
    rw [List.contains_cons, Bool.or_eq_true] at h
    rcases h with h | h
    · cases beq_iff_eq.mp h; exact h0
    · exact FTab.fld t nm h
theorem NAs.all {K : PySem.W.Frag} {C : Addr} : ∀ {l : List (Str × Nat)}, NAs K C l → ∀ x ∈ l, NoAttr K C x.1
  | a :: r, ⟨h0, t⟩, x, h => by
    rcases List.mem_cons.mp h with e | h
    · subst e; exact h0
    · exact NAs.all t x h
/-- the built-in kinds are none of the class -/
structure NoK (K : PySem.W.Frag) (C : Addr) : Prop where
  h1 : PySem.W.kitOne K (.type "NoneType") (.ref C) = some false
  h2 : PySem.W.kitOne K (.type "bool") (.ref C) = some false
  h3 : PySem.W.kitOne K (.type "int") (.ref C) = some false
  h4 : PySem.W.kitOne K (.type "str") (.ref C) = some false
  h5 : PySem.W.kitOne K (.type "tuple") (.ref C) = some false
  h6 : PySem.W.kitOne K (.type "list") (.ref C) = some false
  h7 : PySem.W.kitOne K (.type "dict") (.ref C) = some false
/-- a class in isinstance -/
structure ClQ0 (K : PySem.W.Frag) (mg : Str → Option Value) (x : Str) (T : Option String) (tab : List (Str × Bool)) : Prop where
  ex : ∃ c : Value, ClG mg x c ∧ (match T with | none => ∃ C : Addr, c = .ref C ∧ NoK K C | some t => c = .type t) ∧ QTab K c tab
theorem ClQ0.q {K : PySem.W.Frag} {mg : Str → Option Value} {x : Str} {T : Option String} {tab : List (Str × Bool)} {ns : List Str} (h : ClQ0 K mg x T tab) (k : KCs K ns) (hs : ∀ x ∈ tab, x.1 ∈ ns) : ClQ K mg x T tab := by
  obtain ⟨c, g, t, q⟩ := h.ex
  refine ⟨c, g, ⟨?_, QTab.cl k q hs⟩⟩
  cases T with
  | none =>
    obtain ⟨C, rfl, n⟩ := t
    exact ⟨C, rfl, tyn_all (P := fun a => PySem.W.kitOne K (.type a) (.ref C) = some false) n.h1 n.h2 n.h3 n.h4 n.h5 n.h6 n.h7⟩
  | some t' => exact t
/-- an except clause's class -/
structure ClY (K : PySem.W.Frag) (mg : Str → Option Value) (x : Str) (yes : List (Str × Bool)) : Prop where
  ex : ∃ c : Value, ClG mg x c ∧ YTab K c yes
section
variable {X : Cx} {x n : Str} {i : Nat} {body suite : List Stmt} {b₀ : Stmt} {np pos pos' : Pos} {fb fs : SS} {W : WX} {yes : List (Str × Bool)}
theorem s_tryC (hs : X.stack = X.env :: X.outer) (hf : X.env.frame = some X.env.locals) (hN : X.N.Nodup) (hi : X.N[i]? = some n) (hln : X.env.kindOf n = some .local) (Y : ClY X.K X.mg x yes) (hg : Gl X x) (hdb : (x == ("__debug__" : Str)) = false) (tk : Takes X W)
    (hb : ∀ (W : WX) (pn : List (Addr × Obj)) (xe : Value → Shared → Prop), Takes (X.tr pn xe) W → PassesOwn (model X.prog X.w) X.A X.env xe → PSs (X.tr pn xe) body (TSv X.K W fb))
    (hsu : ∀ (a : Addr) (pn : List (Addr × Obj)), PSs (X.suite a pn) (b₀ :: suite) (TSv X.K W0 fs)) :
    PS X (.Try body [.ExceptHandler (some (.Name x np)) (some n) (b₀ :: suite) pos'] [] [] pos) (TSv X.K W (sTry yes i fb fs)) := by
  obtain ⟨c, g, y⟩ := Y.ex
  refine s_try hs hf hN hi hln ⟨hg, hdb, ?_⟩ y.yes tk hb hsu
  rcases g with ⟨C, rfl, m⟩ | ⟨m, _, v, nn⟩
  · exact .inl m
  · exact .inr ⟨m, v, nn⟩
end

/-! ## the head's facts -/
section
variable {K : PySem.W.Frag} {mg : Str → Option Value} {h : Heap}
theorem nsC {nm : Str} {C : Addr} (m : PySem.W.nsIn K mainGlobals nm = some (some (.ref C))) : ClsN K nm C := m
theorem dfi_mk (KX : K.In h) (G : h.Ns mainGlobals mg) {nm qual : Str} {st : Stmt} {fs : List (Str × Nat)} {C f : Addr} {oc : Value} {od an : Option Addr} {osl : Array (Option Value)} {kV doc pm cdv ct : Value} (m : PySem.W.nsIn K mainGlobals nm = some (some (.ref C)))
    (init : PySem.W.findIn K (.ref C) "__init__" = some (some (.ref f))) (makes : PySem.W.makesIn K C = true) (fn : PySem.W.isFn K (.ref f) = true) (kp : PySem.W.keepIn K (.ref C) = true) (xg : excG K C = false)
    (l : K.lookup f = some ⟨oc, od, .func (PySem.W.fnOf "__init__" qual (defArgs st) (defBody st) (defScope st) .none kV doc pm an cdv ct), osl⟩) (c : PySem.W.codeIn K cdv qual = true) (k : PySem.W.keepIn K (.ref f) = true)
    (pg : PySem.W.plainGet K C Str.empty = true) (hd : PySem.W.hasDictIn K C = true) (po : PySem.W.plainOver K C = true) (sa : PySem.W.findIn K (.ref C) "__setattr__" = some (some (.builtin "object.__setattr__"))) (na : NAs K C fs) : DfI K mg nm qual st fs :=
  ⟨C, f, _, ⟨makes, init, fn, kp⟩, PySem.W.mg_of KX G m, m, xg, fun_mk l c k, ⟨pg, hd, po, sa⟩, na.all⟩
theorem exc0_mk (KX : K.In h) (G : h.Ns mainGlobals mg) {nm qual f : Str} {st : Stmt} {C fI : Addr} {oc : Value} {od an : Option Addr} {osl : Array (Option Value)} {kV doc pm cdv ct : Value} (m : PySem.W.nsIn K mainGlobals nm = some (some (.ref C)))
    (init : PySem.W.findIn K (.ref C) "__init__" = some (some (.ref fI))) (tI : PySem.W.typeIn K (.ref fI) = some (.type "function")) (xg : excG K C = true) (hno : PySem.W.findIn K (.ref C) f = some none)
    (l : K.lookup fI = some ⟨oc, od, .func (PySem.W.fnOf "__init__" qual (defArgs st) (defBody st) (defScope st) .none kV doc pm an cdv ct), osl⟩) (c : PySem.W.codeIn K cdv qual = true) (k : PySem.W.keepIn K (.ref fI) = true)
    {n1 q1 : Str} {N : Addr} {bs bm : List Value} {sn : List Str} {sub : List Value} {ab : Bool} {col : Option Bool} {dd : Option Addr} {k0 k1 k2 k3 k5 : Option Value} (hc : K.lookup C = some (excClassObj n1 q1 C N bs bm true sn sub ab col dd k0 k1 k2 k3 k5 "ValueError.__new__")) (hb : PySem.HandSPX.refsVE bm = true)
    (sa : PySem.W.findIn K (.ref C) "__setattr__" = some (some (.builtin "object.__setattr__"))) (eC : PySem.W.subIn K (.ref C) (.type "BaseException") = some true) (tyC : PySem.W.typeIn K (.ref C) = some (.type "type")) (kC : PySem.W.keepIn K (.ref C) = true) : ExC0 K mg nm qual f st :=
  ⟨C, fI, _, fun_mk l c k, ⟨⟨_, _, _, _, _, _, _, _, _, _, _, _, _, _, _, hc, hb⟩, sa, eC, tyC, kC⟩, xg, init, tI, hno, PySem.W.mg_of KX G m, m⟩
theorem web_mk (KX : K.In h) (G : h.Ns mainGlobals mg) {B : Str} {C : Addr} (m : PySem.W.nsIn K mainGlobals B = some (some (.ref C))) (a : PySem.W.specialIn K (.ref C) "__getattribute__" = some (some (.builtin "type.__getattribute__"))) (b : PySem.W.readsIn K C (.type "type") = true)
    (c : PySem.W.findCls K (.ref C) (.type "type") "__init__" = some (.val (.builtin "ValueError.__init__"))) : WeB K mg B := ⟨C, PySem.W.mg_of KX G m, a, b, c⟩
theorem exp_mk (KX : K.In h) (G : h.Ns mainGlobals mg) {nm : Str} {C : Addr} (m : PySem.W.nsIn K mainGlobals nm = some (some (.ref C))) (a : PySem.W.excIn K C (["ValueError", "Exception", "BaseException", "object"].map Value.type) "ValueError.__new__" = true) (xg : excG K C = true) (kC : PySem.W.keepIn K (.ref C) = true)
    (eC : PySem.W.subIn K (.ref C) (.type "BaseException") = some true) (tyC : PySem.W.typeIn K (.ref C) = some (.type "type")) : Exp K mg nm := ⟨C, a, xg, PySem.W.mg_of KX G m, m, kC, eC, tyC⟩
theorem clq_own (KX : K.In h) (G : h.Ns mainGlobals mg) {x : Str} {C : Addr} {tab : List (Str × Bool)} (m : PySem.W.nsIn K mainGlobals x = some (some (.ref C))) (n : NoK K C) (t : QTab K (.ref C) tab) : ClQ0 K mg x none tab := ⟨.ref C, .inl ⟨C, rfl, PySem.W.mg_of KX G m⟩, ⟨C, rfl, n⟩, t⟩
theorem clq_blt (KX : K.In h) (G : h.Ns mainGlobals mg) {x : Str} {T : String} {tab : List (Str × Bool)} (m : PySem.W.nsIn K mainGlobals x = some none) (hv : bootBuiltins x = some (.type T)) (hn : x ≠ "__name__") (t : QTab K (.type T) tab) : ClQ0 K mg x (some T) tab :=
  ⟨.type T, .inr ⟨PySem.W.mg_none_of KX G m, ⟨T, rfl⟩, hv, hn⟩, rfl, t⟩
theorem cly_own (KX : K.In h) (G : h.Ns mainGlobals mg) {x : Str} {C : Addr} {tab : List (Str × Bool)} (m : PySem.W.nsIn K mainGlobals x = some (some (.ref C))) (t : YTab K (.ref C) tab) : ClY K mg x tab := ⟨.ref C, .inl ⟨C, rfl, PySem.W.mg_of KX G m⟩, t⟩
theorem clk_ins {C : Addr} (xg : excG K C = false) (pg : PySem.W.plainGet K C Str.empty = true) (hd : PySem.W.hasDictIn K C = true) (po : PySem.W.plainOver K C = true) (sa : PySem.W.findIn K (.ref C) "__setattr__" = some (some (.builtin "object.__setattr__")))
    (ha : PySem.W.findIn K (.ref C) "__class__" = some (some (.builtin "object.__class__"))) (hn : PySem.W.specialIn K (.builtin "object.__class__") "__get__" = some (some (.builtin "getset_descriptor.__get__"))) (ht : PySem.W.takesIn K (.builtin "object.__class__") = some true) (hm : PySem.W.mroIn K C (.type "object") = some true) : ClsK K C :=
  .inl ⟨xg, ⟨pg, hd, po, sa⟩, ⟨ha, hn, ht, hm⟩⟩
theorem clk_exc {C : Addr} (xg : excG K C = true) (hg : PySem.W.findIn K (.ref C) "__getattribute__" = some (some (.builtin "BaseException.__getattribute__"))) (hk : PySem.W.findIn K (.ref C) "__getattr__" = some none) (hs : PySem.W.subIn K (.ref C) (.type "BaseException") = some true) (hd : PySem.W.hasDictIn K C = true)
    (ha : PySem.W.findIn K (.ref C) "__class__" = some (some (.builtin "object.__class__"))) (hn : PySem.W.specialIn K (.builtin "object.__class__") "__get__" = some (some (.builtin "getset_descriptor.__get__"))) (ht : PySem.W.takesIn K (.builtin "object.__class__") = some true) (hm : PySem.W.mroIn K C (.type "object") = some true) : ClsK K C :=
  .inr ⟨xg, ⟨hg, hk, hs, hd, ha, hn, ht, hm⟩⟩
theorem fld_ins {C : Addr} {f : Str} (xg : excG K C = false) (pg : PySem.W.plainGet K C Str.empty = true) (hd : PySem.W.hasDictIn K C = true) (po : PySem.W.plainOver K C = true) (sa : PySem.W.findIn K (.ref C) "__setattr__" = some (some (.builtin "object.__setattr__"))) (na : PySem.W.findIn K (.ref C) f = some none) :
    (excG K C = false ∧ Cls K C ∧ NoAttr K C f) ∨ (excG K C = true ∧ XfC K C ∧ PySem.W.findIn K (.ref C) f = some none) := .inl ⟨xg, ⟨pg, hd, po, sa⟩, na⟩
theorem fld_exc {C : Addr} {f : Str} (xg : excG K C = true) (x : xfB K C = true) (na : PySem.W.findIn K (.ref C) f = some none) :
    (excG K C = false ∧ Cls K C ∧ NoAttr K C f) ∨ (excG K C = true ∧ XfC K C ∧ PySem.W.findIn K (.ref C) f = some none) := .inr ⟨xg, xfB_ok x, na⟩
end
/-- the class's own def -/
def memOf (st : Stmt) (j : Nat) : Stmt := match st with
  | .ClassDef (body := b) .. => b.getD j (.Pass ⟨0, 0, 0, 0⟩)
  | s => s
end WS
namespace WS
open PySem PySem.Spec PyProof.Rows L2
theorem hq64 {A : Around} {k : Nat} (hr : RoomQ k A) : A.units + 64 < cLine := Nat.lt_of_le_of_lt (by omega) hr.un
theorem hq1 {A : Around} {k : Nat} (hr : RoomQ k A) : A.units + 1 < cLine := Nat.lt_of_le_of_lt (by omega) hr.un
theorem hq100 {A : Around} {k : Nat} (hr : RoomQ k A) : A.units + 100 < cLine := Nat.lt_of_le_of_lt (by omega) hr.un
theorem hq65 {A : Around} {k : Nat} (hr : RoomQ k A) : A.units + 65 < cLine := Nat.lt_of_le_of_lt (by omega) hr.un
theorem RoomQ.mono {j k : Nat} {A : Around} (r : RoomQ k A) (h : j ≤ k) : RoomQ j A := L2H.RoomH.mono r h
end WS
namespace WS
open PySem PySem.Spec PyProof.Rows L2

/-! ## reckoning words for exceptions -/
def tre (i : Nat) (y : Out × List Sl × Dk) : Option (Out × List Sl × Dk) := if isEx y.1 = true then none else some (y.1, y.2.1.set i .no, y.2.2)
def trx (yes : List (Str × Bool)) (i : Nat) (s : SS) (x : Out × List Sl × Dk) : Option (Out × List Sl × Dk) := match x.1 with
  | .ex C ns ds => (yes.lookup C).bind fun t => if t = true then (s (x.2.1.set i (.val (.ins C ns ds))) x.2.2).bind (tre i) else some x
  | _ => some x
def rz {α : Type} (okd : D → Bool) (d : D) (o : α) : Option α := if okd d = true then some o else none
def okx (x : Rs D × List Sl × Dk) : Option (D × List Sl × Dk) := match x.1 with
  | .ok d => some (d, x.2.1, x.2.2)
  | .ex _ _ _ => none
section
variable {α β : Type} {ρ : List Sl} {k : Dk} {a : E} {fs : EL} {e : EX} {ax : AX} {g : D → Option D} {gs : List D → Option D} {d : D} {ds es : List D} {C nm f : Str} {ns : List Str} {s b : SS} {n i : Nat} {F : FnX} {tg : Tg} {yes : List (Str × Bool)} {okd : D → Bool}
theorem bx_ok {x : α} {h : α → List Sl → Dk → Option (Rs β × List Sl × Dk)} {t : Tg1 h} : bx (some (.ok x, ρ, k)) h t = h x ρ k := nrfl rfl
theorem bx_ex {h : α → List Sl → Dk → Option (Rs β × List Sl × Dk)} {t : Tg1 h} : bx (some (.ex C ns ds, ρ, k)) h t = some (.ex C ns ds, ρ, k) := nrfl rfl
theorem bx_none {h : α → List Sl → Dk → Option (Rs β × List Sl × Dk)} {t : Tg1 h} : bx none h t = none := nrfl rfl
theorem bxs_ok {h : D → List Sl → Dk → Option (Out × List Sl × Dk)} {t : Tg1 h} : bxs (some (.ok d, ρ, k)) h t = h d ρ k := nrfl rfl
theorem bxs_ex {h : D → List Sl → Dk → Option (Out × List Sl × Dk)} {t : Tg1 h} : bxs (some (.ex C ns ds, ρ, k)) h t = some (.ex C ns ds, ρ, k) := nrfl rfl
theorem bxs_none {h : D → List Sl → Dk → Option (Out × List Sl × Dk)} {t : Tg1 h} : bxs none h t = none := nrfl rfl
theorem ap_xE : xE a ρ k = (a ρ k).bnd fun x => some (.ok x.1, x.2.1, x.2.2) := nrfl rfl
theorem ap_xA : xA fs ρ k = (fs ρ k).bnd fun x => some (.ok x.1, x.2.1, x.2.2) := nrfl rfl
theorem ap_xUn : xUn g e ρ k = bx (e ρ k) fun d ρ k => (g d).bnd fun z => some (.ok z, ρ, k) := nrfl rfl
theorem ap_axCons : axCons e ax ρ k = bx (e ρ k) fun d ρ k => bx (ax ρ k) fun ds ρ k => some (.ok (d :: ds), ρ, k) := nrfl rfl
theorem ap_xApp : xApp gs ax ρ k = bx (ax ρ k) fun ds ρ k => (gs ds).bnd fun z => some (.ok z, ρ, k) := nrfl rfl
theorem ap_xCall : xCallF n F fs ρ k = (fs ρ k).bnd fun x => if x.1.length = n then (F x.1 x.2.2).bnd fun y => some (y.1, x.2.1, y.2) else none := nrfl rfl
theorem ap_xCallK {π : List Nat} {gl : EL} : xCallK n F π fs gl ρ k = (fs ρ k).bnd fun x => (gl x.2.1 x.2.2).bnd fun y => if (prm π (x.1 ++ y.1)).length = n then (F (prm π (x.1 ++ y.1)) y.2.2).bnd fun z => some (z.1, y.2.1, z.2) else none := nrfl rfl
theorem ap_eOk : eOk e ρ k = (e ρ k).bnd fun x => okx x := nrfl rfl
theorem ok_ok : okx (.ok d, ρ, k) = some (d, ρ, k) := nrfl rfl
theorem ap_asgX : sAsgX tg e ρ k = bxs (e ρ k) fun d ρ k => (tg d ρ).bnd fun ρ' => some (.nx, ρ', k) := nrfl rfl
theorem ap_retX : sRetX e ρ k = bxs (e ρ k) fun d ρ k => some (.rt d, ρ, k) := nrfl rfl
theorem ap_dropX : sDropX e ρ k = bxs (e ρ k) fun d ρ k => some (.nx, ρ, k) := nrfl rfl
theorem ap_runX : runX n s ds k = (s (st0 n ds) k).bind finX := nrfl rfl
theorem finX_rt : finX (.rt d, ρ, k) = some (.ok d, k) := nrfl rfl
theorem finX_nx : finX (.nx, ρ, k) = some (.ok .non, k) := nrfl rfl
theorem finX_ex : finX (.ex C ns ds, ρ, k) = some (.ex C ns ds, k) := nrfl rfl
theorem om_ex {h : List Sl → Dk → Option (Out × List Sl × Dk)} {q : Tg1 h} : om (.ex C ns ds, ρ, k) h q = some (.ex C ns ds, ρ, k) := nrfl rfl
theorem ap_sTry : sTry yes i b s ρ k = (b ρ k).bnd fun x => trx yes i s x := nrfl rfl
theorem tr_nx : trx yes i s (.nx, ρ, k) = some (.nx, ρ, k) := nrfl rfl
theorem tr_rt : trx yes i s (.rt d, ρ, k) = some (.rt d, ρ, k) := nrfl rfl
/-- a clause that takes it -/
theorem tr_yes (h : yes.lookup C = some true) : trx yes i s (.ex C ns ds, ρ, k) = (s (ρ.set i (.val (.ins C ns ds))) k).bnd fun y => tre i y := by
  show (yes.lookup C).bind _ = _
  rw [h]; rfl
theorem tr_not (h : yes.lookup C = some false) : trx yes i s (.ex C ns ds, ρ, k) = some (.ex C ns ds, ρ, k) := by
  show (yes.lookup C).bind _ = _
  rw [h]; rfl
theorem tre_nx : tre i (.nx, ρ, k) = some (.nx, ρ.set i .no, k) := nrfl rfl
theorem tre_rt : tre i (.rt d, ρ, k) = some (.rt d, ρ.set i .no, k) := nrfl rfl
theorem ap_sRaise : sRaise nm f okd a ρ k = (a ρ k).bnd fun x => rz okd x.1 (.ex nm [f] [x.1], x.2.1, x.2.2) := nrfl rfl
theorem ap_sRaise0 : sRaise0 nm ρ k = some (.ex nm [] [], ρ, k) := nrfl rfl
theorem rz_int {i : Int} {o : α} (h : i.natAbs ≤ 10 ^ 55) : rz okDI (.int i) o = some o := if_pos (decide_eq_true h)
/-- __init__ ends -/
theorem ap_runI {fl : List (Str × Nat)} {p : Addr} {m : Nat} : runI nm m s fl p ds k = (s (st0 m (.obj p :: ds)) k).bind (finI nm p fl) := nrfl rfl
theorem finI_ex {fl : List (Str × Nat)} {p : Addr} : finI nm p fl (.ex C ns ds, ρ, k) = some (.ex C ns ds, k) := nrfl rfl
theorem finI_nx {fl : List (Str × Nat)} {p : Addr} : finI nm p fl (.nx, .val (.obj p) :: ρ, k) = (pickF (.val (.obj p) :: ρ) fl).bind fun l => some (.ok (.ins nm (fl.map (·.1)) l), k) := if_pos rfl
end
end WS
local macro_rules | `(tactic| simp! [$ts,*]) => `(tactic| simp -implicitDefEqProofs only [WS.ap_xE, WS.ap_xA, WS.ap_xUn, WS.ap_axCons, WS.ap_xApp, WS.ap_xCall, WS.ap_eOk, WS.ok_ok, WS.ap_asgX, WS.ap_retX, WS.ap_dropX, WS.bx_ok, WS.bx_ex, WS.bx_none, WS.bxs_ok, WS.bxs_ex, WS.bxs_none, WS.ap_runX, WS.finX_rt, WS.finX_nx, WS.finX_ex, WS.ap_sTry, WS.tr_nx, WS.tr_rt, WS.tre_nx, WS.tre_rt, WS.ap_sRaise, WS.ap_sRaise0, WS.om_ex, WS.fo_ex, WS.ap_iSrc, WS.sr_l, WS.sr_t, WS.sr_s, WS.ap_callK, WS.prm_0, WS.r_leI, WS.r_leS, WS.ap_sUpd, WS.ap_disp, WS.ap_run, WS.ap_C, WS.ap_Op, WS.ap_Un, WS.ap_nil, WS.ap_cons, WS.ap_App, WS.ap_And, WS.ap_Or, WS.ap_Not, WS.ap_Not', WS.ap_NotB, WS.ap_If, WS.ap_sNil, WS.ap_sSeq, WS.ap_sRet, WS.ap_sDrop, WS.ap_sIf, WS.ap_sAsg, WS.ap_gSet, WS.ap_call, WS.ap_chain, WS.ap_pair, WS.wp_nil, WS.wp_cons, WS.ap_comp, WS.ap_for, WS.ap_iApp, WS.ap_iSeq, WS.sq_lst, WS.sq_tup, WS.it0, WS.it1, WS.it2, WS.it3, WS.il0, WS.il1, WS.il2, WS.il3, WS.fo_nx, WS.fo_ct, WS.fo_bk, WS.fo_rt, WS.bm_t, WS.bm_f, WS.om_nx, WS.om_rt, WS.om_bk, WS.om_ct, WS.fin_nx, WS.fin_rt, WS.bnd_some, WS.bnd_none, WS.mpd_some, WS.mpd_none, Option.bind_some, Option.map_some, Option.bind_none, Option.map_none, List.length_cons, List.length_nil, Nat.zero_add, Nat.reduceAdd, reduceIte, Nat.reduceEqDiff, Nat.reduceLeDiff, WS.osm_int, WS.ap_oNone, WS.ap_oSome, WS.ap_Sl, WS.ap_app, WS.ap_ext, WS.ap_ownL, WS.ow_l, WS.ow_d, WS.ls_l, WS.sl_to1, WS.sl_from1, WS.r_rev, WS.r_lstS, WS.r_tupS, WS.isi_non_int, WS.isi_non_bool, WS.isi_non_str, WS.isi_non_tuple, WS.isi_non_list, WS.isi_non_dict, WS.isi_bl_int, WS.isi_bl_bool, WS.isi_bl_str, WS.isi_bl_tuple, WS.isi_bl_list, WS.isi_bl_dict, WS.isi_int_int, WS.isi_int_bool, WS.isi_int_str, WS.isi_int_tuple, WS.isi_int_list, WS.isi_int_dict, WS.isi_str_int, WS.isi_str_bool, WS.isi_str_str, WS.isi_str_tuple, WS.isi_str_list, WS.isi_str_dict, WS.isi_tup_int, WS.isi_tup_bool, WS.isi_tup_str, WS.isi_tup_tuple, WS.isi_tup_list, WS.isi_tup_dict, WS.isi_lst_int, WS.isi_lst_bool, WS.isi_lst_str, WS.isi_lst_tuple, WS.isi_lst_list, WS.isi_lst_dict, WS.isi_dct_int, WS.isi_dct_bool, WS.isi_dct_str, WS.isi_dct_tuple, WS.isi_dct_list, WS.isi_dct_dict, WS.r_lt, WS.r_le, WS.r_gt, WS.r_ge, WS.r_add, WS.r_addIB, WS.r_addBI, WS.r_sub, WS.r_subIB, WS.r_subBI, WS.r_neg, WS.r_eqI, WS.r_neI, WS.r_eqB, WS.r_neB, WS.r_eqBI, WS.r_eqS, WS.r_neS, WS.r_eqT0, WS.r_neT0, WS.r_eqL0, WS.r_neL0, WS.r_isB, WS.r_isnB, WS.r_isN, WS.r_isnN, WS.r_lenT, WS.r_lenL, WS.r_min, WS.r_intI, WS.r_intB, WS.r_tupL, WS.r_lstT, WS.r_lstL, Bool.not_true, Bool.not_false, Bool.not_not, decide_true, decide_false, WS.bm_b, decide_eq_true_eq, Bool.not_eq_true', decide_eq_false_iff_not, Bool.false_eq_true, if_true, if_false, WS.ap_ownD0, WS.kd_i, WS.kd_s, WS.ap_put, WS.ap_oget, WS.ap_oin, WS.ap_osort, Int.cast_ofNat_Int, eq_self, Int.reduceEq, Int.reduceLT, Int.reduceLE, not_true_eq_false, not_false_eq_true, Bool.true_and, Bool.false_and, WS.st0_c, WS.st0_n, WS.st0_0, WS.vv_0, WS.vo_0, WS.ix_0, WS.sx_0, WS.vv_1, WS.vo_1, WS.ix_1, WS.sx_1, WS.vv_2, WS.vo_2, WS.ix_2, WS.sx_2, WS.vv_3, WS.vo_3, WS.ix_3, WS.sx_3, WS.vv_4, WS.vo_4, WS.ix_4, WS.sx_4, WS.vv_5, WS.vo_5, WS.ix_5, WS.sx_5, WS.vv_6, WS.vo_6, WS.ix_6, WS.sx_6, WS.vv_7, WS.vo_7, WS.ix_7, WS.sx_7, WS.vv_8, WS.vo_8, WS.ix_8, WS.sx_8, WS.vv_9, WS.vo_9, WS.ix_9, WS.sx_9, WS.vv_10, WS.vo_10, WS.ix_10, WS.sx_10, WS.vv_11, WS.vo_11, WS.ix_11, WS.sx_11, WS.vv_12, WS.vo_12, WS.ix_12, WS.sx_12, WS.vv_13, WS.vo_13, WS.ix_13, WS.sx_13, WS.vv_14, WS.vo_14, WS.ix_14, WS.sx_14, WS.vv_15, WS.vo_15, WS.ix_15, WS.sx_15, WS.vv_16, WS.vo_16, WS.ix_16, WS.sx_16, WS.vv_17, WS.vo_17, WS.ix_17, WS.sx_17, WS.vv_18, WS.vo_18, WS.ix_18, WS.sx_18, WS.vv_19, WS.vo_19, WS.ix_19, WS.sx_19, WS.vv_20, WS.vo_20, WS.ix_20, WS.sx_20, WS.vv_21, WS.vo_21, WS.ix_21, WS.sx_21, WS.vv_22, WS.vo_22, WS.ix_22, WS.sx_22, WS.vv_23, WS.vo_23, WS.ix_23, WS.sx_23, WS.vv_24, WS.vo_24, WS.ix_24, WS.sx_24, $ts,*])
namespace WS
open PySem PySem.Spec PyProof.Rows L2

/-! ## a tuple, a list times a number -/
theorem tuple_mul0 (l : Addr) (items : Array Value) (n : Nat) (dd : Option Addr) (sl : Array (Option Value)) (x : Int) (u : Tok) (c0 : (decide (x < -(2 ^ 63)) || decide (x ≥ 2 ^ 63)) = false) (c1 : (items.isEmpty || x == 1) = false) (c2 : (decide (x ≤ 0) || items.isEmpty) = true) :
    Meets (Builtin.«tuple.__mul__» ⟨[.ref l, .int x u], []⟩) (fun _ R s => s.heap.get? l = some { cls := .type "tuple", dict := dd, data := .seq items n, slots := sl } ∧
      R (.ok (.ret (Value.ref s.heap.objs.size))) { s with heap := s.heap.push { cls := Value.type "tuple", data := Data.seq #[] }, toks := s.toks }) :=
  .of_wp fun prog w A R s h => by
    obtain ⟨hp, g, d, tk, os⟩ := s
    obtain ⟨hl, h⟩ := h
    have f1 := AutoSeq1.idx_int
    wp_walk using wpAny_loadPart' hl
    repeat (first
      | (refine wpAny_ite_false (decide_eq_false (by rw [c0]; exact Bool.false_ne_true)) ?_; wp_walk using wpAny_loadPart' hl)
      | (refine wpAny_ite_false (decide_eq_false (by rw [c1]; exact Bool.false_ne_true)) ?_; wp_walk using wpAny_loadPart' hl)
      | (refine wpAny_ite_true (decide_eq_true c2) ?_; wp_walk using wpAny_loadPart' hl))
    exact ⟨_, rfl, h⟩
theorem tuple_mul1 (l : Addr) (items : Array Value) (n : Nat) (dd : Option Addr) (sl : Array (Option Value)) (x : Int) (u : Tok) (c0 : (decide (x < -(2 ^ 63)) || decide (x ≥ 2 ^ 63)) = false) (c1 : (items.isEmpty || x == 1) = true) :
    Meets (Builtin.«tuple.__mul__» ⟨[.ref l, .int x u], []⟩) (fun _ R s => s.heap.get? l = some { cls := .type "tuple", dict := dd, data := .seq items n, slots := sl } ∧
      R (.ok (.ret (Value.ref l))) s) :=
  .of_wp fun prog w A R s h => by
    obtain ⟨hp, g, d, tk, os⟩ := s
    obtain ⟨hl, h⟩ := h
    have f1 := AutoSeq1.idx_int
    wp_walk using wpAny_loadPart' hl
    repeat (first
      | (refine wpAny_ite_false (decide_eq_false (by rw [c0]; exact Bool.false_ne_true)) ?_; wp_walk using wpAny_loadPart' hl)
      | (refine wpAny_ite_true (decide_eq_true c1) ?_; wp_walk using wpAny_loadPart' hl))
    exact ⟨_, rfl, h⟩
def rRepA (K : PySem.W.Frag) : R2 := fun x y H Q => ∃ l k xs, x = .ref l ∧ y = .int k ∧ SqT K H l xs ∧ -1000000000 ≤ k ∧ k ≤ 1000 ∧ xs.length ≤ 1000 ∧
  (if xs = [] ∨ k = 1 then Q (.ref l) H else ∀ p, H p = none → Q (.ref p) (upd H p (.tup (List.replicate k.toNat xs).flatten)))
section
variable {X : Cx}
theorem op_repA : OpR X (binaryOp .Mult) (rRepA X.K) := by
  intro pins s σ H x y v u Q I rx ry h
  obtain ⟨l, k, xs, rfl, rfl, hT, h0, h2, hz, q⟩ := h
  by_cases hs : xs = [] ∨ k = 1
  · rw [if_pos hs] at q
    cases rx
    obtain ⟨t, rfl⟩ := ry
    obtain ⟨its, r, ⟨⟨cls, dd, data, sl⟩, ho, hc, n, hd⟩, hsz⟩ := I.tuple hT
    simp only at hc hd
    subst hc hd
    have c0 : (decide (k < -(2 ^ 63)) || decide (k ≥ 2 ^ 63)) = false := by
      rw [decide_eq_false (by omega), decide_eq_false (by omega)] <;> rfl
    have c1 : (its.toArray.isEmpty || k == 1) = true := by
      rcases hs with hs | hs
      · subst hs
        have : its = [] := List.eq_nil_of_length_eq_zero (by rw [← r.length]; rfl)
        subst this; rfl
      · subst hs; simp
    exact wpAny_binaryOp_repeat_ref (T := "tuple") (U := "int") (by decide) ⟨_, ho, rfl⟩ (fun s' => typeIs_int s' k t) noFill_tuple_mul F.fills_int_mul F.slot_int_rmul repeat_tuple F.slot_int_index.lookup
      (call_meets F.slot_int_rmul (typeIs_int s k t) F.entry_int_rmul (F.args_int_rmul_2 _ _) (int_rmul_tuple k t l its.toArray n dd sl)
        ⟨ho, rfl, ⟨_, ho, rfl⟩, call_meets F.slot_tuple_mul ⟨_, ho, rfl⟩ F.entry_tuple_mul (F.args_tuple_mul_2 _ _) (tuple_mul1 l its.toArray n dd sl k t c0 c1) ⟨ho, ⟨.ref l, H, I, rfl, q⟩⟩⟩)
  · rw [if_neg hs] at q
    have hne : xs ≠ [] := fun e => hs (.inl e)
    have hk1 : k ≠ 1 := fun e => hs (.inr e)
    by_cases hk : 2 ≤ k
    · exact op_repT pins s σ H _ _ v u Q I rx ry ⟨l, k, xs, rfl, rfl, hT, hne, hk, h2, hz, q⟩
    · have hk0 : k ≤ 0 := by omega
      cases rx
      obtain ⟨t, rfl⟩ := ry
      obtain ⟨its, r, ⟨⟨cls, dd, data, sl⟩, ho, hc, n, hd⟩, hsz⟩ := I.tuple hT
      simp only at hc hd
      subst hc hd
      have hn : its ≠ [] := fun e => hne (by
        have := r.length
        rw [e] at this
        exact List.eq_nil_of_length_eq_zero this)
      have hi : its.toArray.isEmpty = false := by
        cases its with
        | nil => exact absurd rfl hn
        | cons a b => rfl
      have c0 : (decide (k < -(2 ^ 63)) || decide (k ≥ 2 ^ 63)) = false := by
        rw [decide_eq_false (by omega), decide_eq_false (by omega)] <;> rfl
      have c1 : (its.toArray.isEmpty || k == 1) = false := by
        rw [hi, Bool.false_or]
        exact beq_eq_false_iff_ne.mpr hk1
      have c2 : (decide (k ≤ 0) || its.toArray.isEmpty) = true := by
        rw [decide_eq_true hk0]; rfl
      have e0 : (List.replicate k.toNat xs).flatten = [] := by
        rw [show k.toNat = 0 by omega]; rfl
      rw [e0] at q
      refine wpAny_binaryOp_repeat_ref (T := "tuple") (U := "int") (by decide) ⟨_, ho, rfl⟩ (fun s' => typeIs_int s' k t) noFill_tuple_mul F.fills_int_mul F.slot_int_rmul repeat_tuple F.slot_int_index.lookup
        (call_meets F.slot_int_rmul (typeIs_int s k t) F.entry_int_rmul (F.args_int_rmul_2 _ _) (int_rmul_tuple k t l its.toArray n dd sl)
          ⟨ho, rfl, ⟨_, ho, rfl⟩, call_meets F.slot_tuple_mul ⟨_, ho, rfl⟩ F.entry_tuple_mul (F.args_tuple_mul_2 _ _) (tuple_mul0 l its.toArray n dd sl k t c0 c1 c2) ⟨ho, ?_⟩⟩)
      refine ⟨.ref s.heap.objs.size, _, I.laid (t' := s.toks) (o := .tup []) (fun b ob q => Heap.get?_push_of_some _ q) (Nat.le_refl _) ?_, rfl, q _ (I.hok.fresh (Nat.le_refl _))⟩
      exact ⟨Nat.zero_le _, [], .nil, IsTup.new _ _⟩
def gMulB : D → D → Option D
  | .tup xs, .int k => if -1000000000 ≤ k ∧ k ≤ 1000 ∧ xs.length ≤ 1000 then some (.tup (List.replicate k.toNat xs).flatten) else none
  | .lst xs, .int k => if -1000000000 ≤ k ∧ k ≤ 1000 ∧ xs.length ≤ 1000 then some (.lst (List.replicate k.toNat xs).flatten) else none
  | d, e => gMul d e
theorem RpL.rep {K : PySem.W.Frag} {S : Sx} {vs : List V} {ds : List D} (h : RpL K S vs ds) : ∀ n : Nat, RpL K S (List.replicate n vs).flatten (List.replicate n ds).flatten
  | 0 => .nil
  | n + 1 => by
    rw [List.replicate_succ, List.flatten_cons, List.replicate_succ, List.flatten_cons]
    exact h.app (RpL.rep h n)
theorem repl_one {α : Type} (xs : List α) : (List.replicate (1 : Int).toNat xs).flatten = xs := by
  show (List.replicate 1 xs).flatten = xs
  simp
theorem repl_nil {α : Type} (n : Nat) : (List.replicate n ([] : List α)).flatten = [] := by
  induction n with
  | zero => rfl
  | succ n ih => rw [List.replicate_succ, List.flatten_cons, ih]; rfl
theorem x_mulB : OpX X (binaryOp .Mult) gMulB := by
  obtain ⟨r, h1, h2⟩ := x_mul (X := X)
  refine ⟨_, (op_repA.or op_rep).or h1, fun S H x y d e z Q sh rx ry eg q => ?_⟩
  unfold gMulB at eg
  split at eg
  · rename_i xs k
    split at eg
    · rename_i hc
      cases eg
      cases ry
      cases rx with
      | tup hs hr =>
        rename_i a vs
        have hl := hr.length
        refine .inl (.inl ⟨a, k, vs, rfl, rfl, sh.sqT hs, hc.1, hc.2.1, by rw [hl]; exact hc.2.2, ?_⟩)
        split
        · rename_i hh
          refine q _ S H (Grow.refl sh) ?_
          have e1 : (List.replicate k.toNat xs).flatten = xs := by
            rcases hh with hh | hh
            · subst hh
              have : xs = [] := List.eq_nil_of_length_eq_zero (by rw [← hl]; rfl)
              subst this
              exact repl_nil _
            · subst hh; exact repl_one xs
          rw [e1]
          exact .tup hs hr
        · exact fun p hp => q _ _ _ (Grow.add sh hp) (.tup (.inl (.inl Sx.add_at)) ((hr.rep _).mono (Grow.add sh hp).le))
    · cases eg
  · rename_i xs k
    split at eg
    · rename_i hc
      cases eg
      cases ry
      cases rx with
      | lst hs hr =>
        rename_i a vs
        have hl := hr.length
        refine .inl (.inr ⟨a, k, vs, rfl, rfl, sh _ _ hs, by omega, by omega, ?_, fun p hp => q _ _ _ (Grow.add sh hp) (.lst Sx.add_at ((hr.rep _).mono (Grow.add sh hp).le))⟩)
        rw [hl, sizeLine_eq]
        have a1 : xs.length * k.toNat ≤ 1000 * 1000 := Nat.mul_le_mul hc.2.2 (by omega)
        omega
    · cases eg
  · exact .inr (h2 S H x y d e z Q sh rx ry eg q)
end
theorem r_mulT {xs : List D} {k : Int} (h : -1000000000 ≤ k ∧ k ≤ 1000 ∧ xs.length ≤ 1000) : gMulB (.tup xs) (.int k) = some (.tup (List.replicate k.toNat xs).flatten) := if_pos h
theorem r_mulLs {xs : List D} {k : Int} (h : -1000000000 ≤ k ∧ k ≤ 1000 ∧ xs.length ≤ 1000) : gMulB (.lst xs) (.int k) = some (.lst (List.replicate k.toNat xs).flatten) := if_pos h
theorem r_mulT1 {x : D} {k : Int} (h : -1000000000 ≤ k ∧ k ≤ 1000) : gMulB (.tup [x]) (.int k) = some (.tup (List.replicate k.toNat x)) := by
  rw [r_mulT ⟨h.1, h.2, by simp⟩]
  congr 2
  induction k.toNat with
  | zero => rfl
  | succ n ih => rw [List.replicate_succ, List.flatten_cons, ih, List.replicate_succ]; rfl
theorem r_mulI {i j : Int} : gMulB (.int i) (.int j) = gMul (.int i) (.int j) := rfl
end WS
namespace WS
open PySem PySem.Spec PyProof.Rows L2

/-! ## zip(.., .., strict=True) of two lists -/
/-- an iterator over a list (true) or a tuple (false); what it goes over -/
def IterB (c : Bool) (h : Heap) (it l : Addr) (k : Nat) : Prop := match c with
  | true => h.IsListIter it l k
  | false => h.IsTupleIter it l k
def SeqB (c : Bool) (h : Heap) (l : Addr) (us : Array Value) : Prop := match c with
  | true => h.IsList l us
  | false => h.IsTuple l us
theorem IterB.there {c : Bool} {h : Heap} {it l : Addr} {k : Nat} (x : IterB c h it l k) : ∃ o, h.get? it = some o ∧ ∀ v, o.data ≠ .cell v := by
  cases c
  · obtain ⟨o, e, _, d⟩ := x; exact ⟨o, e, fun v q => by rw [d] at q; cases q⟩
  · obtain ⟨o, e, _, d⟩ := x; exact ⟨o, e, fun v q => by rw [d] at q; cases q⟩
theorem IterB.at {c : Bool} {h h' : Heap} {it l : Addr} {k : Nat} (x : IterB c h it l k) (f : ∀ o, h.get? it = some o → h'.get? it = some o) : IterB c h' it l k := by
  cases c
  · obtain ⟨o, e, r⟩ := x; exact ⟨o, f o e, r⟩
  · obtain ⟨o, e, r⟩ := x; exact ⟨o, f o e, r⟩
theorem SeqB.at {c : Bool} {h h' : Heap} {l : Addr} {us : Array Value} (x : SeqB c h l us) (f : ∀ o, h.get? l = some o → h'.get? l = some o) : SeqB c h' l us := by
  cases c
  · obtain ⟨o, e, r⟩ := x; exact ⟨o, f o e, r⟩
  · obtain ⟨o, e, r⟩ := x; exact ⟨o, f o e, r⟩
theorem IterB.ex {c : Bool} {h h' : Heap} {it l d : Addr} {k : Nat} (x : IterB c h it l k) (m : Heap.ExtBut d h h') (n : it ≠ d) : IterB c h' it l k := x.at fun o e => m it o n e
theorem SeqB.ex {c : Bool} {h h' : Heap} {l d : Addr} {us : Array Value} (x : SeqB c h l us) (m : Heap.ExtBut d h h') (n : l ≠ d) : SeqB c h' l us := x.at fun o e => m l o n e
section
variable {P : Program} {w : World} {A : Around} {E : Value → Shared → Prop} {s : Shared} {it l : Addr} {i : Nat} {us : Array Value}
/-- a draw that may end -/
theorem draw_more {c : Bool} {v : Value} {Q : Option Value → Shared → Prop} (hi : IterB c s.heap it l i) (hl : SeqB c s.heap l us) (hv : us[i]? = some v)
    (hQ : ∀ h', IterB c h' it l (i + 1) → Heap.SameBut it s.heap h' → Q (some v) { s with heap := h' }) : wpAny (model P w) A (Builtin.SmallTypes.nextOrEnd (.ref it)) Q E s := by
  unfold Builtin.SmallTypes.nextOrEnd
  cases c
  · exact wpAny_bind (wpAny_attempt (RZ.nextOf_tuple_item hi hl hv fun h' a b => wpAny_pure (hQ h' a b)))
  · exact wpAny_bind (wpAny_attempt (wpAny_nextOf_list_item hi hl hv fun h' a b => wpAny_pure (hQ h' a b)))
theorem draw_done {c : Bool} {Q : Option Value → Shared → Prop} (hh : A.handled = none) (hi : IterB c s.heap it l i) (hl : SeqB c s.heap l us) (hv : us[i]? = none)
    (hQ : ∀ h', Heap.ExtBut it s.heap h' → Q none { s with heap := h' }) : wpAny (model P w) A (Builtin.SmallTypes.nextOrEnd (.ref it)) Q E s := by
  unfold Builtin.SmallTypes.nextOrEnd
  have fin : ∀ (h' : Heap) (e : Addr), Heap.ExtBut it s.heap h' → (∃ o, h'.get? e = some o ∧ o.cls = .type "StopIteration") → wpAny (model P w) A (do if ← isInstance (.ref e) (.type "StopIteration") then pure none else throw (.ref e)) Q E { s with heap := h' } := fun h' e k ⟨o, ho, hc⟩ =>
    wpAny_bind (wpAny_isInstance (T := "StopIteration") (b := true) ⟨o, ho, hc⟩ isSubtype_stop (wpAny_pure (hQ h' k)))
  cases c
  · exact wpAny_bind (wpAny_attempt (RZ.nextOf_tuple_end hh hi hl hv fin))
  · exact wpAny_bind (wpAny_attempt (wpAny_nextOf_list_end hh hi hl hv fin))

/-- a strict zip's own object -/
def ZipAt (h : Heap) (z TI TO : Addr) (f0 : Value) : Prop := h.get? z = some { cls := .type "zip", dict := none, data := .fields #[f0, .bool false, .bool true, .ref TI, .ref TO], slots := #[] }
variable {c1 c2 : Bool} {z TI TO i1 i2 l1 l2 : Addr} {k1 k2 : Nat} {xs ys : Array Value} {a b x y : Value}
theorem zipS_item {Q : Value → Shared → Prop} (D : ZipApart z TI TO i1 i2 l1 l2) (hz : ZipAt s.heap z TI TO .none) (hTI : IsPair s.heap TI (.ref i1) (.ref i2)) (hTO : IsPair s.heap TO a b)
    (h1 : IterB c1 s.heap i1 l1 k1) (h2 : IterB c2 s.heap i2 l2 k2) (hl1 : SeqB c1 s.heap l1 xs) (hl2 : SeqB c2 s.heap l2 ys) (hx : xs[k1]? = some x) (hy : ys[k2]? = some y)
    (hQ : ∀ h', ZipAt h' z TI TO (rawInt s.heap.objs.size) → IsPair h' TO x y → IterB c1 h' i1 l1 (k1 + 1) → IterB c2 h' i2 l2 (k2 + 1) → IsPair h' s.heap.objs.size x y → h'.objs.size = s.heap.objs.size + 1 →
      (∀ c o, c ≠ z → c ≠ TO → c ≠ i1 → c ≠ i2 → s.heap.get? c = some o → h'.get? c = some o) → Q (.ref s.heap.objs.size) { s with heap := h' }) :
    wpAny (model P w) A (Builtin.«zip.__next__» ⟨[.ref z], []⟩) (fun f s' => ∃ v, f = .done (.ret v) ∧ Q v s') E s := by
  show wpAny _ _ (field (.ref z) 2 >>= _) _ _ s
  refine wpAny_bind (wpAny_field hz rfl (x := .bool true) rfl ?f2)
  show wpAny _ _ (field (.ref z) 3 >>= _) _ _ s
  refine wpAny_bind (wpAny_field hz rfl (x := .ref TI) rfl (wpAny_bind (wpAny_seqItems hTI rfl ?f3)))
  show wpAny _ _ (Builtin.SmallTypes.ownedTupleIsFree (.ref z) >>= _) _ _ s
  unfold Builtin.SmallTypes.ownedTupleIsFree
  refine wpAny_bind (wpAny_bind (wpAny_field hz rfl (x := .none) rfl (wpAny_pure ?f4)))
  simp only [if_true]
  refine wpAny_bind (wpAny_rule (wpAny_bind (wpAny_field hz rfl (x := .ref TO) rfl ?f5)))
  refine wpAny_bind (wpAny_setField_rec hz (by simp) fun g1 z1 m1 => wpAny_bind ?f6)
  have z1 : ZipAt g1 z TI TO .ellipsis := z1
  simp only [List.zipIdx_cons, List.zipIdx_nil, List.forIn_cons, List.forIn_nil]
  have keep1 : ∀ {c o}, c ≠ z → s.heap.get? c = some o → g1.get? c = some o := fun n e => m1.extBut _ _ n e
  refine wpAny_bind (wpAny_bind (wpAny_onRaise ?d1))
  show wpAny _ _ (Builtin.SmallTypes.nextOrEnd (.ref i1)) _ _ _
  refine draw_more (h1.ex m1.extBut D.i1z) (hl1.ex m1.extBut D.l1z) hx fun g2 j1 m2 => ?e1
  have t2 : IsPair g2 TO a b := m2.extBut _ _ D.TOi1 (keep1 D.TOz hTO)
  refine wpAny_bind (wpAny_seqItems t2 rfl (wpAny_bind (wpAny_updateSeq_pair t2 fun g3 t3 m3 => wpAny_bind (wpAny_letGo (wpAny_pure ?e2)))))
  have t3 : IsPair g3 TO x b := t3
  refine wpAny_bind (wpAny_bind (wpAny_onRaise ?d2))
  show wpAny _ _ (Builtin.SmallTypes.nextOrEnd (.ref i2)) _ _ _
  refine draw_more (((h2.ex m1.extBut D.i2z).ex m2.extBut D.i12.symm).ex m3.extBut D.TOi2.symm) (((hl2.ex m1.extBut D.l2z).ex m2.extBut D.l2i1).ex m3.extBut D.l2TO) hy fun g4 j2 m4 => ?e3
  have t4 : IsPair g4 TO x b := m4.extBut _ _ D.TOi2 t3
  refine wpAny_bind (wpAny_seqItems t4 rfl (wpAny_bind (wpAny_updateSeq_pair t4 fun g5 t5 m5 => wpAny_bind (wpAny_letGo (wpAny_pure (wpAny_pure ?e4))))))
  have t5 : IsPair g5 TO x y := t5
  refine wpAny_bind (wpAny_seqItems t5 rfl (wpAny_bind (wpAny_newTuple ?e5)))
  have sz5 : g5.objs.size = s.heap.objs.size := by rw [m5.1, m4.1, m3.1, m2.1, m1.1]
  have z5 : ZipAt g5 z TI TO .ellipsis := m5.extBut _ _ D.TOz.symm (m4.extBut _ _ D.i2z.symm (m3.extBut _ _ D.TOz.symm (m2.extBut _ _ D.i1z.symm z1)))
  have k5 : ∀ c o, c ≠ z → c ≠ TO → c ≠ i1 → c ≠ i2 → s.heap.get? c = some o → g5.get? c = some o := fun c o c1 c2 c3 c4 e =>
    m5.extBut _ _ c2 (m4.extBut _ _ c4 (m3.extBut _ _ c2 (m2.extBut _ _ c3 (keep1 c1 e))))
  have j1' : IterB c1 g5 i1 l1 (k1 + 1) := ((j1.ex m3.extBut D.TOi1.symm).ex m4.extBut D.i12).ex m5.extBut D.TOi1.symm
  have j2' : IterB c2 g5 i2 l2 (k2 + 1) := j2.ex m5.extBut D.TOi2.symm
  have zlt : z < g5.objs.size := Heap.lt_size z5
  show wpAny _ _ (Builtin.SmallTypes.ownedTupleHandOut (.ref z) (.ref g5.objs.size) >>= _) _ _ _
  unfold Builtin.SmallTypes.ownedTupleHandOut
  have z6 : ZipAt (g5.push { cls := .type "tuple", data := .seq #[x, y] }) z TI TO .ellipsis := Heap.get?_push_of_some _ z5
  refine wpAny_bind (wpAny_bind (wpAny_setField_rec z6 (by simp) fun g7 z7 m7 => ?e6))
  have z7 : ZipAt g7 z TI TO (rawInt g5.objs.size) := z7
  refine wpAny_setField_rec z7 (by simp) fun g8 z8 m8 => ?e7
  have z8 : ZipAt g8 z TI TO (rawInt g5.objs.size) := z8
  have up : ∀ c o, c ≠ z → g5.get? c = some o → g8.get? c = some o := fun c o n e => m8.extBut _ _ n (m7.extBut _ _ n (Heap.get?_push_of_some _ e))
  have new8 : IsPair g8 g5.objs.size x y := m8.extBut _ _ (Nat.ne_of_gt zlt) (m7.extBut _ _ (Nat.ne_of_gt zlt) (Heap.get?_push_size _ rfl))
  have sz8 : g8.objs.size = g5.objs.size + 1 := by rw [m8.1, m7.1, Heap.size_push]
  rw [sz5] at z8 new8 sz8
  refine wpAny_pure ⟨_, rfl, ?e8⟩
  show Q (.ref g5.objs.size) _
  rw [sz5]
  exact hQ g8 z8 (up _ _ D.TOz t5) (j1'.at fun o e => up _ o D.i1z e) (j2'.at fun o e => up _ o D.i2z e) new8 sz8 fun c o c1 c2 c3 c4 e => up c o c1 (k5 c o c1 c2 c3 c4 e)
/-- both at their ends -/
theorem zipS_end {Q : PySem.Fin → Shared → Prop} (hh : A.handled = none) (D : ZipApart z TI TO i1 i2 l1 l2) (hz : ZipAt s.heap z TI TO .none) (hTI : IsPair s.heap TI (.ref i1) (.ref i2)) (hTO : IsPair s.heap TO a b)
    (h1 : IterB c1 s.heap i1 l1 k1) (h2 : IterB c2 s.heap i2 l2 k2) (hl1 : SeqB c1 s.heap l1 xs) (hl2 : SeqB c2 s.heap l2 ys) (hx : xs[k1]? = none) (hy : ys[k2]? = none)
    (hE : ∀ h' e, (∀ c o, c ≠ z → c ≠ TO → c ≠ i1 → c ≠ i2 → s.heap.get? c = some o → h'.get? c = some o) → (∃ o, h'.get? e = some o ∧ o.cls = .type "StopIteration") → E (.ref e) { s with heap := h' }) :
    wpAny (model P w) A (Builtin.«zip.__next__» ⟨[.ref z], []⟩) Q E s := by
  show wpAny _ _ (field (.ref z) 2 >>= _) _ _ s
  refine wpAny_bind (wpAny_field hz rfl (x := .bool true) rfl ?f2)
  show wpAny _ _ (field (.ref z) 3 >>= _) _ _ s
  refine wpAny_bind (wpAny_field hz rfl (x := .ref TI) rfl (wpAny_bind (wpAny_seqItems hTI rfl ?f3)))
  show wpAny _ _ (Builtin.SmallTypes.ownedTupleIsFree (.ref z) >>= _) _ _ s
  unfold Builtin.SmallTypes.ownedTupleIsFree
  refine wpAny_bind (wpAny_bind (wpAny_field hz rfl (x := .none) rfl (wpAny_pure ?f4)))
  simp only [if_true]
  refine wpAny_bind (wpAny_rule (wpAny_bind (wpAny_field hz rfl (x := .ref TO) rfl ?f5)))
  refine wpAny_bind (wpAny_setField_rec hz (by simp) fun g1 z1 m1 => wpAny_bind ?f6)
  have z1 : ZipAt g1 z TI TO .ellipsis := z1
  simp only [List.zipIdx_cons, List.zipIdx_nil, List.forIn_cons, List.forIn_nil]
  refine wpAny_bind (wpAny_bind (wpAny_onRaise ?d1))
  show wpAny _ _ (Builtin.SmallTypes.nextOrEnd (.ref i1)) _ _ _
  refine draw_done hh (h1.ex m1.extBut D.i1z) (hl1.ex m1.extBut D.l1z) hx fun g2 m2 => ?e1
  have z2 : ZipAt g2 z TI TO .ellipsis := m2 _ _ D.i1z.symm z1
  refine wpAny_bind (wpAny_setField_rec z2 (by simp) fun g3 z3 m3 => ?e2)
  refine wpAny_bind (wpAny_bind ?e3)
  simp only [List.drop_succ_cons, List.drop_zero, List.zipIdx_cons, List.zipIdx_nil, List.forIn_cons, List.forIn_nil]
  have keep3 : ∀ {c o}, c ≠ z → c ≠ i1 → s.heap.get? c = some o → g3.get? c = some o := fun n n1 e => m3.extBut _ _ n (m2 _ _ n1 (m1.extBut _ _ n e))
  have hl2' : SeqB c2 g3 l2 ys := by
    exact hl2.at fun o e => keep3 D.l2z D.l2i1 e
  have h2' : IterB c2 g3 i2 l2 k2 := h2.at fun o e => keep3 D.i2z D.i12.symm e
  refine wpAny_bind (wpAny_bind (draw_done hh h2' hl2' hy fun g4 m4 => ?e4))
  show wpAny _ _ (pure _) _ _ _
  refine wpAny_pure (wpAny_pure (wpAny_bind (wpAny_rule ?e5)))
  show wpAny _ _ (newExc (.type "StopIteration") [] >>= raiseNew) _ _ _
  refine wpAny_bind ?e6
  simp only [newExc, newTuple]
  refine wpAny_bind (wpAny_newObj_type ?e7 (by size_fits))
  refine wpAny_bind (m := firstArgMember _ _) (wpAny_of_eq (a := Value.none) (by first | rfl | (simp only [firstArgMember]; rfl)) (wpAny_newObj_type ?e8 (by size_fits)))
  unfold raiseNew
  refine wpAny_bind (wpAny_handled ?e9)
  rw [hh]
  refine wpAny_bind (wpAny_pure (wpAny_throw (hE _ _ (fun c o n1 n2 n3 n4 e => ?e10) ⟨_, Heap.get?_push_size _ rfl, rfl⟩)))
  exact Heap.get?_push_of_some _ (Heap.get?_push_of_some _ (m4 _ _ n4 (keep3 n1 n3 e)))
theorem zipS_ty (hz : ZipAt s.heap z TI TO a) : s.TypeIs (.ref z) "zip" := ⟨_, hz, rfl⟩
theorem nextS_item {Q : Option Value → Shared → Prop} (D : ZipApart z TI TO i1 i2 l1 l2) (hz : ZipAt s.heap z TI TO .none) (hTI : IsPair s.heap TI (.ref i1) (.ref i2)) (hTO : IsPair s.heap TO a b)
    (h1 : IterB c1 s.heap i1 l1 k1) (h2 : IterB c2 s.heap i2 l2 k2) (hl1 : SeqB c1 s.heap l1 xs) (hl2 : SeqB c2 s.heap l2 ys) (hx : xs[k1]? = some x) (hy : ys[k2]? = some y)
    (hQ : ∀ h', ZipAt h' z TI TO (rawInt s.heap.objs.size) → IsPair h' TO x y → IterB c1 h' i1 l1 (k1 + 1) → IterB c2 h' i2 l2 (k2 + 1) → IsPair h' s.heap.objs.size x y → h'.objs.size = s.heap.objs.size + 1 →
      (∀ c o, c ≠ z → c ≠ TO → c ≠ i1 → c ≠ i2 → s.heap.get? c = some o → h'.get? c = some o) → Q (some (.ref s.heap.objs.size)) { s with heap := h' }) : wpAny (model P w) A (pyNext (.ref z)) Q E s := by
  have hT := zipS_ty hz
  unfold pyNext
  refine wpAny_bind (wpAny_attempt (wpAny_callSpecial?_slot (name := Str.ofString "__next__") hT F.slot_zip_next (wpAny_call_entry F.slot_zip_next hT F.entry_zip_next ?step (F.args_zip_next_1 _))))
  exact zipS_item D hz hTI hTO h1 h2 hl1 hl2 hx hy fun h' q1 q2 q3 q4 q5 q6 q7 => wpAny_pure (hQ h' q1 q2 q3 q4 q5 q6 q7)
theorem nextS_end {Q : Option Value → Shared → Prop} (hh : A.handled = none) (D : ZipApart z TI TO i1 i2 l1 l2) (hz : ZipAt s.heap z TI TO .none) (hTI : IsPair s.heap TI (.ref i1) (.ref i2)) (hTO : IsPair s.heap TO a b)
    (h1 : IterB c1 s.heap i1 l1 k1) (h2 : IterB c2 s.heap i2 l2 k2) (hl1 : SeqB c1 s.heap l1 xs) (hl2 : SeqB c2 s.heap l2 ys) (hx : xs[k1]? = none) (hy : ys[k2]? = none)
    (hQ : ∀ h', (∀ c o, c ≠ z → c ≠ TO → c ≠ i1 → c ≠ i2 → s.heap.get? c = some o → h'.get? c = some o) → Q none { s with heap := h' }) : wpAny (model P w) A (pyNext (.ref z)) Q E s := by
  have hT := zipS_ty hz
  unfold pyNext
  refine wpAny_bind (wpAny_attempt (wpAny_callSpecial?_slot (name := Str.ofString "__next__") hT F.slot_zip_next (wpAny_call_entry F.slot_zip_next hT F.entry_zip_next ?step (F.args_zip_next_1 _))))
  refine zipS_end hh D hz hTI hTO h1 h2 hl1 hl2 hx hy fun h' e k ⟨o, ho, hc⟩ => ?_
  exact wpAny_bind (wpAny_isInstance (T := "StopIteration") (b := true) ⟨o, ho, hc⟩ isSubtype_stop (wpAny_pure (hQ h' k)))
theorem goS {elts : List Expr} {kk : Nat} {pos : Pos} {T : Addr} {Q : Unit → Shared → Prop} (hz : ZipAt s.heap z TI TO (rawInt T)) (hQ : ∀ h', ZipAt h' z TI TO .none → Heap.SameBut z s.heap h' → Q () { s with heap := h' }) :
    wpAny (model P w) A (letOwnedTupleGo (.Tuple elts kk pos) (.ref z) (.ref T)) Q E s := by
  unfold letOwnedTupleGo
  refine wpAny_bind (wpAny_load hz ?l)
  show wpAny _ _ (if (["enumerate", "zip", "dict_itemiterator", "dict_reverseitemiterator", "odict_iterator", "itertools.zip_longest", "itertools.pairwise"].contains "zip" && (#[rawInt T, .bool false, .bool true, .ref TI, .ref TO] : Array Value)[0]? == some (rawInt T)) = true then _ else _) Q E s
  rw [if_pos (by simp)]
  refine wpAny_bind (wpAny_rule ?r)
  exact wpAny_setField_rec hz (by simp) fun h' q1 q2 => hQ h' q1 q2
theorem iterS {Q : Value → Shared → Prop} (hz : ZipAt s.heap z TI TO a) (h : Q (.ref z) s) : wpAny (model P w) A (pyIter (.ref z)) Q E s := by
  have hT := zipS_ty hz
  refine wpAny_pyIter_slot hT F.slot_zip_iter (wpAny_call_entry F.slot_zip_iter hT F.entry_zip_iter ?i (F.args_zip_iter_1 _))
  exact wpAny_pure ⟨_, rfl, "zip", _, hT, F.slot_zip_next.lookup, h⟩
end
end WS
namespace WS
open PySem PySem.Spec PyProof.Rows L2
/-- the items of two lists in pairs; both end at once -/
def SqB (c : Bool) (K : PySem.W.Frag) (H : Hp) (a : Addr) (xs : List V) : Prop := match c with
  | true => SqL K H a xs
  | false => SqT K H a xs
def ItzS (c1 c2 : Bool) (K : PySem.W.Frag) (a b : Addr) : It :=
  ⟨fun i H => ∃ (xs ys : List V) (x y : V), SqB c1 K H a xs ∧ SqB c2 K H b ys ∧ xs[i]? = some x ∧ ys[i]? = some y,
    fun i H v H' => ∃ T x y, v = .ref T ∧ H T = none ∧ H' = upd H T (.tup [x, y]) ∧ (∀ xs, SqB c1 K H a xs → xs[i]? = some x) ∧ ∀ ys, SqB c2 K H b ys → ys[i]? = some y,
    fun i H => ∃ xs ys : List V, SqB c1 K H a xs ∧ SqB c2 K H b ys ∧ xs.length ≤ i ∧ ys.length ≤ i⟩
theorem sqb_at {X : Cx} {pins : List (Addr × Obj)} {σ : L2.St} {H : Hp} {s : Shared} {c : Bool} {a : Addr} {xs : List V} (I : Inv X pins σ H s) (h : SqB c X.K H a xs) : ∃ its : List Value, Vals xs its ∧ SeqB c s.heap a its.toArray ∧ a < s.heap.objs.size := by
  cases c
  · obtain ⟨its, r, p, _⟩ := I.tuple h
    obtain ⟨o, e, q, n, d⟩ := p
    exact ⟨its, r, ⟨o, e, q, n, d⟩, Heap.lt_size e⟩
  · obtain ⟨its, r, p, _⟩ := I.list h
    exact ⟨its, r, p.isList, p.lt⟩
theorem sqb_inj {X : Cx} {pins : List (Addr × Obj)} {σ : L2.St} {H : Hp} {s : Shared} {c : Bool} {a : Addr} {xs ys : List V} (I : Inv X pins σ H s) (h : SqB c X.K H a xs) (h' : SqB c X.K H a ys) : xs = ys := by
  cases c
  · exact I.tuple_inj h h'
  · exact I.list_inj h h'
def StS (c1 c2 : Bool) (z TI TO i1 i2 a b : Addr) : Nat → Heap → Prop := fun i h => ZipAt h z TI TO .none ∧ IsPair h TI (.ref i1) (.ref i2) ∧ (∃ x y, IsPair h TO x y) ∧ IterB c1 h i1 a i ∧ IterB c2 h i2 b i
section
variable {P : Program} {w : World} {K : PySem.W.Frag} {elts : List Expr} {kk : Nat} {tpos : Pos} {a b z TI TO i1 i2 : Addr} {c1 c2 : Bool}
theorem five {c : Addr} (h : c ∈ [z, TI, TO, i1, i2]) : c = z ∨ c = TI ∨ c = TO ∨ c = i1 ∨ c = i2 := by simpa using h
theorem off5 {c : Addr} (h : c ∉ [z, TI, TO, i1, i2]) : c ≠ z ∧ c ≠ TI ∧ c ≠ TO ∧ c ≠ i1 ∧ c ≠ i2 := by
  simpa using h
theorem turnS (D : ZipApart z TI TO i1 i2 a b) : Turn P w K (.Tuple elts kk tpos) (ItzS c1 c2 K a b) [z, TI, TO, i1, i2] z (StS c1 c2 z TI TO i1 i2 a b) where
  mem := by simp
  obj := fun i h ⟨q1, q2, ⟨x, y, q3⟩, q4, q5⟩ c hc => by
    rcases five hc with e | e | e | e | e
    · subst e; exact ⟨_, q1, fun v q => nomatch q⟩
    · subst e; exact ⟨_, q2, fun v q => nomatch q⟩
    · subst e; exact ⟨_, q3, fun v q => nomatch q⟩
    · subst e; exact q4.there
    · subst e; exact q5.there
  keep := fun i h h' ⟨q1, q2, ⟨x, y, q3⟩, q4, q5⟩ k =>
    ⟨k z (by simp) _ q1, k TI (by simp) _ q2, ⟨x, y, k TO (by simp) _ q3⟩, q4.at fun o q => k i1 (by simp) o q, q5.at fun o q => k i2 (by simp) o q⟩
  item := by
    intro X hP hw hK hc i pins s σ H E I hf st hg
    subst hP hw hK
    obtain ⟨q1, q2, ⟨x0, y0, q3⟩, q4, q5⟩ := st
    obtain ⟨xs, ys, x, y, hqx, hqy, hx, hy⟩ := hg
    obtain ⟨us, ru, pu, _⟩ := sqb_at I hqx
    obtain ⟨vs, rv, pv, _⟩ := sqb_at I hqy
    obtain ⟨u, hu, r1⟩ := ru.get hx
    obtain ⟨v, hv, r2⟩ := rv.get hy
    have zl : z < s.heap.objs.size := Heap.lt_size q1
    refine nextS_item D q1 q2 q3 q4 q5 pu pv (x := u) (y := v) (by simpa using hu) (by simpa using hv) fun g z' t' j1 j2 hT _ hk => ⟨_, rfl, goS (s := { s with heap := g }) z' fun g2 z2 sb => ?_⟩
    have pair2 : g2.get? s.heap.objs.size = some { cls := .type "tuple", data := .seq #[u, v] } := (sb.2 _ (Nat.ne_of_gt zl)).trans hT
    have I1 : Inv X pins σ (upd H s.heap.objs.size (.tup [x, y])) { s with heap := g2 } :=
      I.turnedNew (t' := s.toks) (ch := [z, TI, TO, i1, i2]) (fun c o hb q => by
        obtain ⟨n1, n2, n3, n4, n5⟩ := off5 hb
        exact (sb.2 c n1).trans (hk c o n1 n3 n4 n5 q)) hf (Nat.le_refl _) ⟨by show 2 ≤ sizeLine; decide, [u, v], .cons r1 (.cons r2 .nil), ⟨_, pair2, rfl, _, rfl⟩⟩
    refine ⟨.ref s.heap.objs.size, _, I1, rfl, ⟨_, x, y, rfl, I.hok.fresh (Nat.le_refl _), rfl, fun l hl => ?y1, fun l hl => ?y2⟩, ⟨z2, (sb.2 _ D.TIz).trans (hk _ _ D.TIz D.TITO D.TIi1 D.TIi2 q2), ⟨u, v, (sb.2 _ D.TOz).trans t'⟩, j1.at fun o q => (sb.2 _ D.i1z).trans q, j2.at fun o q => (sb.2 _ D.i2z).trans q⟩, fun c hcm => ?y3⟩
    case y1 => rw [sqb_inj I hl hqx]; exact hx
    case y2 => rw [sqb_inj I hl hqy]; exact hy
    case y3 =>
      have lt : c < s.heap.objs.size := by
        rcases five hcm with e | e | e | e | e
        · subst e; exact zl
        · subst e; exact Heap.lt_size q2
        · subst e; exact Heap.lt_size q3
        · subst e; obtain ⟨_, e1, _⟩ := q4.there; exact Heap.lt_size e1
        · subst e; obtain ⟨_, e1, _⟩ := q5.there; exact Heap.lt_size e1
      rw [upd_ne (Nat.ne_of_lt lt)]
      exact (hf c hcm).1
  done := by
    intro X hP hw hK hc i pins s σ H E I hf st hg
    subst hP hw hK
    obtain ⟨q1, q2, ⟨x0, y0, q3⟩, q4, q5⟩ := st
    obtain ⟨xs, ys, hqx, hqy, e1, e2⟩ := hg
    obtain ⟨us, ru, pu, _⟩ := sqb_at I hqx
    obtain ⟨vs, rv, pv, _⟩ := sqb_at I hqy
    have n1 := ru.length
    have n2 := rv.length
    refine nextS_end (I.ok.hd hc) D q1 q2 q3 q4 q5 pu pv (by simp; omega) (by simp; omega) fun g hk => ⟨rfl, I.turnedL (t' := s.toks) (ch := [z, TI, TO, i1, i2]) (fun c o hb q => ?_) hf⟩
    obtain ⟨n1, n2, n3, n4, n5⟩ := off5 hb
    exact hk c o n1 n3 n4 n5 q
  self := fun A i s Q E st h => iterS st.1 h
end
end WS
namespace WS
open PySem PySem.Spec PyProof.Rows L2
theorem zipS_check (a b v : Value) : checkTypeCall "zip" ⟨[a, b], [("strict", v)]⟩ = pure () := by kernel_rfl!
theorem zipS_newCheck (a b v : Value) : checkBuiltinCall "zip.__new__" ⟨[.type "zip", a, b], [("strict", v)]⟩ = pure () := by kernel_rfl!
theorem plain_zipNew : plainId "zip.__new__" = true := by decide +kernel
/-- the heap behind it -/
def itObj (c : Bool) (l : Addr) : Obj := match c with
  | true => { cls := .type "list_iterator", data := .fields #[.ref l, .int 0 0] }
  | false => { cls := .type "tuple_iterator", data := .fields #[.ref l, .int 0 0] }
theorem itObj_free (c : Bool) (l : Addr) : (itObj c l).isFreed = false := by cases c <;> rfl
theorem itObj_it {c : Bool} {h : Heap} {a l : Addr} (e : h.get? a = some (itObj c l)) : IterB c h a l 0 := by
  cases c
  · exact ⟨_, e, rfl, rfl⟩
  · exact ⟨_, e, rfl, rfl⟩
def hz1 (c1 : Bool) (h : Heap) (l1 : Addr) : Heap := h.push (itObj c1 l1)
def hz2 (c1 c2 : Bool) (h : Heap) (l1 l2 : Addr) : Heap := (hz1 c1 h l1).push (itObj c2 l2)
def hz3 (c1 c2 : Bool) (h : Heap) (l1 l2 : Addr) : Heap := (hz2 c1 c2 h l1 l2).push { cls := .type "tuple", data := .seq #[.ref h.objs.size, .ref (hz1 c1 h l1).objs.size] }
def hz4 (c1 c2 : Bool) (h : Heap) (l1 l2 : Addr) : Heap := (hz3 c1 c2 h l1 l2).push { cls := .type "tuple", data := .seq #[.none, .none] }
def hz5 (c1 c2 : Bool) (h : Heap) (l1 l2 : Addr) : Heap := (hz4 c1 c2 h l1 l2).push { cls := .type "zip", data := .fields #[.none, .bool false, .bool true, .ref (hz2 c1 c2 h l1 l2).objs.size, .ref (hz3 c1 c2 h l1 l2).objs.size] }
theorem zipS_init (o a b v : Value) : argsOk "object.__init__" ⟨[o, a, b], [("strict", v)]⟩ := by
  unfold argsOk; rw [signature?_of (id := "object.__init__") (n := ['_', '_', 'i', 'n', 'i', 't', '_', '_'].reverse) (o := ['o', 'b', 'j', 'e', 'c', 't'].reverse) (by kernel_rfl) PySem.F.owner_object]; kernel_rfl
section
variable {P : Program} {w : World} {A : Around} {E : Value → Shared → Prop} {s : Shared} {l1 l2 : Addr} {xs ys : Array Value} {c1 c2 : Bool} {Q : Value → Shared → Prop}
theorem code_zipS {R : Result → Shared → Prop} (hl1 : SeqB c1 s.heap l1 xs) (hl2 : SeqB c2 s.heap l2 ys) (h : R (.ok (.ret (.ref (hz4 c1 c2 s.heap l1 l2).objs.size))) { s with heap := hz5 c1 c2 s.heap l1 l2 }) :
    codeAny (model P w) A (.call (.builtin "zip.__new__") ⟨[.type "zip", .ref l1, .ref l2], [("strict", .bool true)]⟩) R s := by
  refine codeAny_of_tree ?tree
  show wpAny _ A.in1 (do checkBuiltinCall "zip.__new__" ⟨[.type "zip", .ref l1, .ref l2], [("strict", .bool true)]⟩; again (.builtin "zip.__new__" ⟨[.type "zip", .ref l1, .ref l2], [("strict", .bool true)]⟩)) _ _ s
  refine wpAny_bind (wpAny_of_eq (zipS_newCheck _ _ _) (wpAny_pure ⟨plainId_quiet plain_zipNew _, codeAny_builtin F.entry_zip_new ?in_⟩))
  rw [Around.under_plainId plain_zipNew _]
  unfold Builtin.«zip.__new__»
  have hsub := PySem.sub_zip
  obtain ⟨hp, g, d, tk, os⟩ := s
  have L2 : SeqB c2 (hz1 c1 hp l1) l2 ys := hl2.at fun o e => Heap.get?_push_of_some _ e
  have L1 : SeqB c1 hp l1 xs := hl1
  unfold hz1 at L2
  cases c1 <;> cases c2
  · have A1 : Heap.IsTuple (Shared.heap ⟨hp, g, d, tk, os⟩) l1 xs := L1
    have A2 : Heap.IsTuple (Shared.heap ⟨hp.push { cls := .type "tuple_iterator", data := .fields #[.ref l1, .int 0 0] }, g, d, tk, os⟩) l2 ys := L2
    wp_walk using wpAny_pyIter_tuple A1, wpAny_pyIter_tuple A2
    exact h
  · have A1 : Heap.IsTuple (Shared.heap ⟨hp, g, d, tk, os⟩) l1 xs := L1
    have A2 : Heap.IsList (Shared.heap ⟨hp.push { cls := .type "tuple_iterator", data := .fields #[.ref l1, .int 0 0] }, g, d, tk, os⟩) l2 ys := L2
    wp_walk using wpAny_pyIter_tuple A1, wpAny_pyIter_list A2
    exact h
  · have A1 : Heap.IsList (Shared.heap ⟨hp, g, d, tk, os⟩) l1 xs := L1
    have A2 : Heap.IsTuple (Shared.heap ⟨hp.push { cls := .type "list_iterator", data := .fields #[.ref l1, .int 0 0] }, g, d, tk, os⟩) l2 ys := L2
    wp_walk using wpAny_pyIter_list A1, wpAny_pyIter_tuple A2
    exact h
  · have A1 : Heap.IsList (Shared.heap ⟨hp, g, d, tk, os⟩) l1 xs := L1
    have A2 : Heap.IsList (Shared.heap ⟨hp.push { cls := .type "list_iterator", data := .fields #[.ref l1, .int 0 0] }, g, d, tk, os⟩) l2 ys := L2
    wp_walk using wpAny_pyIter_list A1, wpAny_pyIter_list A2
    exact h
theorem call_zipS (hl1 : SeqB c1 s.heap l1 xs) (hl2 : SeqB c2 s.heap l2 ys)
    (h : ∀ h', ZipAt h' (s.heap.objs.size + 4) (s.heap.objs.size + 2) (s.heap.objs.size + 3) .none → IsPair h' (s.heap.objs.size + 2) (.ref s.heap.objs.size) (.ref (s.heap.objs.size + 1)) →
      IsPair h' (s.heap.objs.size + 3) .none .none → IterB c1 h' s.heap.objs.size l1 0 → IterB c2 h' (s.heap.objs.size + 1) l2 0 →
      (∀ c o, s.heap.get? c = some o → h'.get? c = some o) → Q (.ref (s.heap.objs.size + 4)) { s with heap := h' }) :
    wpAny (model P w) A (call (.type "zip") [.ref l1, .ref l2] [("strict", .bool true)]) Q E s := by
  have m1 := F.called_zip.made
  have m3 := F.called_zip.notType
  have m4 := F.called_zip.canCreate
  have m5 := zipS_check (.ref l1) (.ref l2) (.bool true)
  have m6 := F.called_zip.init.lookup
  obtain ⟨c, tl, m8⟩ := F.called_zip.mro
  refine wpAny_call (codeAny_of_tree ?tree)
  show wpAny _ _ (callAny (.type "zip") _) _ _ _
  refine wpAny_pure ⟨Code.quiet_builtin _ (by decide +kernel), codeAny_builtin F.entry_type_call ?in_⟩
  rw [Around.under_plain (weight_type_call_type "zip" [.ref l1, .ref l2] [("strict", .bool true)]) rfl]
  repeat (any_goals (first | wp_step | assumption))
  show codeAny (model P w) A.in1 (.call (.builtin "zip.__new__") ⟨[.type "zip", .ref l1, .ref l2], [("strict", .bool true)]⟩) _ s
  refine code_zipS hl1 hl2 ?new
  have z1 : (hz1 c1 s.heap l1).objs.size = s.heap.objs.size + 1 := Heap.size_push ..
  have z2 : (hz2 c1 c2 s.heap l1 l2).objs.size = s.heap.objs.size + 2 := by unfold hz2; rw [Heap.size_push, z1]
  have z3 : (hz3 c1 c2 s.heap l1 l2).objs.size = s.heap.objs.size + 3 := by unfold hz3; rw [Heap.size_push, z2]
  have z4 : (hz4 c1 c2 s.heap l1 l2).objs.size = s.heap.objs.size + 4 := by unfold hz4; rw [Heap.size_push, z3]
  have a5 : (hz5 c1 c2 s.heap l1 l2).get? (hz4 c1 c2 s.heap l1 l2).objs.size = some _ := Heap.get?_push_size _ rfl
  have m7 := F.called_zip.init.bind (.ref (hz4 c1 c2 s.heap l1 l2).objs.size)
  have ty : Shared.TypeIs { s with heap := hz5 c1 c2 s.heap l1 l2 } (.ref (hz4 c1 c2 s.heap l1 l2).objs.size) "zip" := ⟨_, a5, rfl⟩
  have m2 := F.called_zip.sub
  repeat (any_goals (first | wp_step | assumption))
  show codeAny (model P w) A.in1 (.call (.builtin "object.__init__") ⟨[.ref (hz4 c1 c2 s.heap l1 l2).objs.size, .ref l1, .ref l2], [("strict", .bool true)]⟩) _ _
  let good : Value → Shared → Prop := fun r s2 => r = .none ∧ s2 = { s with heap := hz5 c1 c2 s.heap l1 l2 }
  refine codeAny_mono (codeAny_call_builtin (R := wants good E) F.called_zip.init.plain F.entry_object_init (F.called_zip.init.check _ _ _ _ _ _ _ _ ty (zipS_init _ _ _ _) ?ini)) fun r s2 hr => ?fin
  case ini =>
    have hl := F.called_zip.init.lookup
    have hm := F.called_zip.made
    have hne : (some "zip.__new__" != some "object.__new__") = true := by decide
    unfold Builtin.«object.__init__»
    repeat (any_goals (first | wp_step | assumption))
    exact ⟨rfl, rfl⟩
  case fin =>
    match r, hr with
    | .error e, hr => exact hr
    | .ok .next, hr => exact hr.elim
    | .ok .brk, hr => exact hr.elim
    | .ok .cont, hr => exact hr.elim
    | .ok (.ret _), ⟨e1, e2⟩ =>
      subst e1 e2
      repeat (any_goals (first | wp_step | assumption))
      have g4 : (hz5 c1 c2 s.heap l1 l2).get? (hz3 c1 c2 s.heap l1 l2).objs.size = some _ := Heap.get?_push_of_some _ (Heap.get?_push_size _ rfl)
      have g3 : (hz5 c1 c2 s.heap l1 l2).get? (hz2 c1 c2 s.heap l1 l2).objs.size = some _ := Heap.get?_push_of_some _ (Heap.get?_push_of_some _ (Heap.get?_push_size _ rfl))
      have g2 : (hz5 c1 c2 s.heap l1 l2).get? (hz1 c1 s.heap l1).objs.size = some (itObj c2 l2) := Heap.get?_push_of_some _ (Heap.get?_push_of_some _ (Heap.get?_push_of_some _ (Heap.get?_push_size _ (itObj_free c2 l2))))
      have g1 : (hz5 c1 c2 s.heap l1 l2).get? s.heap.objs.size = some (itObj c1 l1) := Heap.get?_push_of_some _ (Heap.get?_push_of_some _ (Heap.get?_push_of_some _ (Heap.get?_push_of_some _ (Heap.get?_push_size _ (itObj_free c1 l1)))))
      rw [z2, z3, z4] at a5
      rw [z1, z2] at g3
      rw [z3] at g4
      rw [z1] at g2
      rw [z4]
      exact h _ a5 g3 g4 (itObj_it g1) (itObj_it g2) fun c o e => Heap.get?_push_of_some _ (Heap.get?_push_of_some _ (Heap.get?_push_of_some _ (Heap.get?_push_of_some _ (Heap.get?_push_of_some _ e))))
end
end WS
namespace WS
open PySem PySem.Spec PyProof.Rows L2
section
variable {M : Model} {A : Around} {E : Value → Shared → Prop} {s : Shared} {env : Env}
/-- a built-in class called with keywords -/
theorem typeKw {pos : Pos} {T : String} {e : Expr} {rest : List Expr} {kws : List Keyword} {ks : List Str} {Q : Value → Shared → Prop}
    (h : wpAny M A (spliced (backTo pos (starEach (e :: rest) env))) (fun us s1 => wpAny M A (evalAll ((backToKw pos (keywordEach kws env)).map (·.2))) (fun ws s2 => wpAny M A (call (.type T) us (ks.zip ws)) Q E s2) E s1) E s)
    (he : backTo pos (starEach (e :: rest) env) = (false, eval e env) :: backTo pos (starEach rest env)) (hp : (backTo pos (starEach (e :: rest) env)).any (·.1) = false)
    (ha : (backToKw pos (keywordEach kws env)).all (·.1.isSome) = true) (hn : (backToKw pos (keywordEach kws env)).any (·.1.isNone) = false) (hk : (backToKw pos (keywordEach kws env)).filterMap (·.1) = ks) :
    wpAny M A (callWith pos (.type T) [] (backTo pos (starEach (e :: rest) env)) (backToKw pos (keywordEach kws env))) Q E s := by
  subst hk
  have args : wpAny M A (evalArgs (.type T) true (backTo pos (starEach (e :: rest) env)) (backToKw pos (keywordEach kws env))) (fun a s1 => wpAny M A (call (.type T) ([] ++ a.pos) a.kw) Q E s1) E s := by
    rw [he] at h ⊢
    exact evalArgs_kwB ha h
  unfold callWith
  refine wpAny_bind (wpAny_holding (wpAny_mono args (fun a s1 g => wpAny_bind (wpAny_standAt ?at_)) fun _ _ q => q))
  simp only [hp, hn, Bool.or_false]
  exact wpAny_bind (wpAny_pure (wpAny_bind (wpAny_mono g (fun r s2 q => wpAny_bind (wpAny_holding (wpAny_point (wpAny_pure q)))) fun _ _ q => q)))
end
def iZipSt (K : PySem.W.Frag) (ta : TA) : TI := fun σ H R => ta σ H fun vs H1 => ∃ c1 c2 a b xs ys, vs = [.ref a, .ref b] ∧ SqB c1 K H1 a xs ∧ SqB c2 K H1 b ys ∧ R (ItzS c1 c2 K a b) H1
section
variable {X : Cx} {e e2 : Expr} {ta : TA} {p pos tpos kp cp : Pos} {elts : List Expr} {kk jj : Nat} {c1 c2 : Bool}
theorem pi_zipS (hg : Gl X "zip") (hm : X.mg "zip" = none) (ha : PA X [e, e2] ta)
    (he : backTo pos (starEach [e, e2] X.env) = (false, eval e X.env) :: backTo pos (starEach [e2] X.env) := by kernel_rfl!) (hp : (backTo pos (starEach [e, e2] X.env)).any (·.1) = false := by kernel_rfl!)
    (hall : (backToKw pos (keywordEach [⟨some "strict", .Constant (.bool true) jj cp, kp⟩] X.env)).all (·.1.isSome) = true := by kernel_rfl!) (hno : (backToKw pos (keywordEach [⟨some "strict", .Constant (.bool true) jj cp, kp⟩] X.env)).any (·.1.isNone) = false := by kernel_rfl!)
    (hks : (backToKw pos (keywordEach [⟨some "strict", .Constant (.bool true) jj cp, kp⟩] X.env)).filterMap (·.1) = [("strict" : Str)] := by kernel_rfl!) :
    PI X (.Tuple elts kk tpos) (.Call (.Name "zip" p) [e, e2] [⟨some "strict", .Constant (.bool true) jj cp, kp⟩] pos) (iZipSt X.K ta) := by
  refine ⟨fun pins s σ H R I h => ?_⟩
  have hk : PK X [⟨some "strict", .Constant (.bool true) jj cp, kp⟩] (tCons (tC (.bl true)) tNil) := pk_cons pe_bl pk_nil
  refine wpAny_Call_Name_kw (ld_blt I hg hm PyProof.Rows.boot_zip ?_)
  refine typeKw (ks := [("strict" : Str)]) (thn (ha.run pos pins s σ H _ I h) fun us s1 ⟨vs, H1, I1, r1, q1⟩ => thn (hk.run pos pins s1 σ H1 (fun zs H2 => zs = [V.bl true] ∧ H2 = H1) I1 ⟨rfl, rfl⟩) fun ws s2 ⟨zs, H2, I2, r2, q2⟩ => ?_) he hp hall hno hks
  obtain ⟨rfl, rfl⟩ := q2
  obtain ⟨c1, c2, a, b, xs, ys, rfl, hqx, hqy, q⟩ := q1
  obtain ⟨u1, u2, rfl, ra, rb⟩ := vals2 r1
  obtain ⟨w1, rfl, rw1⟩ := vals1 r2
  cases ra
  cases rb
  cases rw1
  obtain ⟨us, ru, pu, la⟩ := sqb_at I2 hqx
  obtain ⟨vs, rv, pv, lb⟩ := sqb_at I2 hqy
  refine call_zipS pu pv fun g z1 z2 z3 z4 z5 hk => iterS z1 ?_
  refine ⟨s2.heap.objs.size + 4, [s2.heap.objs.size + 4, s2.heap.objs.size + 2, s2.heap.objs.size + 3, s2.heap.objs.size, s2.heap.objs.size + 1], _, _, H2, rfl, I2.kept (t' := s2.toks) hk, turnS (PySem.W.ktu_apart s2.heap.objs.size a b la lb), ⟨z1, z2, ⟨_, _, z3⟩, z4, z5⟩, fun c hcm => ?_, q⟩
  have le : s2.heap.objs.size ≤ c := by
    rcases five hcm with e | e | e | e | e <;> rw [e] <;> first | exact Nat.le_refl _ | exact Nat.le_add_right _ _
  exact I2.fpOk le (I2.hok.fresh le)
end
end WS
namespace WS
open PySem PySem.Spec PyProof.Rows L2
/-- a list or a tuple as a source of a strict zip -/
def dSq : D → Option (Bool × List D)
  | .lst xs => some (true, xs)
  | .tup xs => some (false, xs)
  | _ => none
def gZipS : List D → Option (List D)
  | [d, e] => (dSq d).bind fun x => (dSq e).bind fun y => if x.2.length = y.2.length then some (List.zipWith (fun x y => .tup [x, y]) x.2 y.2) else none
  | _ => none
section
variable {K : PySem.W.Frag} {S : Sx}
theorem itd_zipS {c1 c2 : Bool} {a b : Addr} {xs ys : List V} {ds es : List D} (h : SqB c1 K S.hp a xs) (h' : SqB c2 K S.hp b ys) (r : RpL K S xs ds) (r' : RpL K S ys es) (hl : ds.length = es.length) :
    ItD K S (ItzS c1 c2 K a b) (List.zipWith (fun x y => .tup [x, y]) ds es) := by
  intro S1 H1 l sh i
  have h1 : SqB c1 K H1 a xs := by
    cases c1
    · exact sh.sqT (l.s.sqT h)
    · exact sh.sqL (l.s.sqL h)
  have h2 : SqB c2 K H1 b ys := by
    cases c2
    · exact sh.sqT (l.s.sqT h')
    · exact sh.sqL (l.s.sqL h')
  refine ⟨fun d hd => ?_, fun hd => ?_⟩
  · obtain ⟨x, y, hx, hy, e⟩ := zip_get hd
    obtain ⟨v, hv, rv⟩ := r.get hx
    obtain ⟨u, hu, ru⟩ := r'.get hy
    subst e
    refine ⟨⟨xs, ys, v, u, h1, h2, hv, hu⟩, fun z H2 q => ?_⟩
    obtain ⟨T, v', u', e1, n, e2, q1, q2⟩ := q
    have z1 := q1 xs h1
    have z2 := q2 ys h2
    rw [hv] at z1; cases z1
    rw [hu] at z2; cases z2
    subst e1 e2
    have g := Grow.add (o := .tup [v, u]) sh n
    exact ⟨_, g, .tup (.inl (.inl Sx.add_at)) (.cons ((rv.mono l).mono g.le) (.cons ((ru.mono l).mono g.le) .nil))⟩
  · have z := zip_none hd
    refine ⟨xs, ys, h1, h2, ?_, ?_⟩ <;> rw [RpL.length (by assumption)] <;> omega
end
section
variable {X : Cx} {e e2 : Expr} {fs : EL} {p pos tpos kp cp : Pos} {elts : List Expr} {kk jj : Nat}
theorem i_zipS (hg : Gl X "zip") (hm : X.mg "zip" = none) (ha : PA X [e, e2] (TAv X.K fs))
    (he : backTo pos (starEach [e, e2] X.env) = (false, eval e X.env) :: backTo pos (starEach [e2] X.env) := by kernel_rfl!) (hp : (backTo pos (starEach [e, e2] X.env)).any (·.1) = false := by kernel_rfl!)
    (hall : (backToKw pos (keywordEach [⟨some "strict", .Constant (.bool true) jj cp, kp⟩] X.env)).all (·.1.isSome) = true := by kernel_rfl!) (hno : (backToKw pos (keywordEach [⟨some "strict", .Constant (.bool true) jj cp, kp⟩] X.env)).any (·.1.isNone) = false := by kernel_rfl!)
    (hks : (backToKw pos (keywordEach [⟨some "strict", .Constant (.bool true) jj cp, kp⟩] X.env)).filterMap (·.1) = [("strict" : Str)] := by kernel_rfl!) :
    PI X (.Tuple elts kk tpos) (.Call (.Name "zip" p) [e, e2] [⟨some "strict", .Constant (.bool true) jj cp, kp⟩] pos) (TIv X.K (iApp gZipS fs)) :=
  (pi_zipS hg hm ha he hp hall hno hks).imp fun σ H R h => tiv_app (t := iZipSt X.K) (r := fun vs H1 R => ∃ c1 c2 a b xs ys, vs = [.ref a, .ref b] ∧ SqB c1 X.K H1 a xs ∧ SqB c2 X.K H1 b ys ∧ R (ItzS c1 c2 X.K a b) H1) (fun _ _ _ _ h => h) (fun S H vs ds zs R sh r e q => by
    have key : ∀ {v : V} {d : D} {c : Bool} {xs : List D}, Rp X.K S v d → dSq d = some (c, xs) → ∃ a ws, v = .ref a ∧ SqB c X.K S.hp a ws ∧ SqB c X.K H a ws ∧ RpL X.K S ws xs := by
      intro v d c xs r1 e1
      unfold dSq at e1
      split at e1
      · cases e1
        cases r1 with
        | lst h1 q1 => exact ⟨_, _, rfl, .inl (.inl h1), .inl (.inl (sh _ _ h1)), q1⟩
      · cases e1
        cases r1 with
        | tup h1 q1 => exact ⟨_, _, rfl, h1, sh.sqT h1, q1⟩
      · cases e1
    unfold gZipS at e
    split at e
    case h_2 => cases e
    obtain ⟨⟨c1, xs⟩, d1, e⟩ := Option.bind_eq_some_iff.mp e
    obtain ⟨⟨c2, ys⟩, d2, e⟩ := Option.bind_eq_some_iff.mp e
    split at e
    case isFalse => cases e
    rename_i hl
    cases e
    cases r with
    | cons r1 r2 =>
      cases r2 with
      | cons r2 r3 =>
        cases r3
        obtain ⟨a, us, rfl, s1, s2, q1⟩ := key r1 d1
        obtain ⟨b, vs, rfl, t1, t2, q2⟩ := key r2 d2
        exact ⟨_, _, _, _, _, _, rfl, s2, t2, q _ (itd_zipS s1 t1 q1 q2 hl)⟩) h
end
end WS
namespace W01
open PySem PySem.Spec PyProof.Rows L2 WS
def g_TOP : D := .int 1000000
def g_REGISTERS : D := .str "abcdefghijklmnopqrst"
def g_GIVEN : D := .str "given"
def g_REGISTER : D := .str "register"
def t_PARTS : List (Str × D) := [("let", .tup [.str "register", .str "given"]), ("add", .tup [.str "register", .str "given", .str "given"]), ("sub", .tup [.str "register", .str "given", .str "given"]), ("half", .tup [.str "register", .str "given"]), ("odd", .tup [.str "register", .str "given"]), ("same", .tup [.str "given", .str "given", .str "jump"]), ("under", .tup [.str "given", .str "given", .str "jump"]), ("go", .tup [.str "jump"]), ("read", .tup [.str "register", .str "given"]), ("put", .tup [.str "given", .str "given"]), ("swap", .tup [.str "register", .str "given", .str "given", .str "given"]), ("new", .tup [.str "register"]), ("free", .tup [.str "given"]), ("end", .tup [.str "given"])]
def body_is_whole : SS := sSeq (sRet (eAnd (eApp gIsI (aCons (eVar 0) (aCons (eC (.ty "int")) (aNil)))) (eNot (eApp gIsI (aCons (eVar 0) (aCons (eC (.ty "bool")) (aNil)))))))
 (sNil)
def F_is_whole : Fn := runS 1 body_is_whole
def body_is_number : SS := sSeq (sRet (eAnd (eCallF 1 W01.F_is_whole (aCons (eVar 0) (aNil))) (eChain gLeE gLt (eC (.int 0)) (eVar 0) (eC W01.g_TOP))))
 (sNil)
def F_is_number : Fn := runS 1 body_is_number
def body_is_register : SS := sSeq (sRet (eAnd (eApp gIsI (aCons (eVar 0) (aCons (eC (.ty "str")) (aNil)))) (eAnd (eOp gEqE (eApp gLen (aCons (eVar 0) (aNil))) (eC (.int 1))) (eOp gIn (eVar 0) (eC W01.g_REGISTERS)))))
 (sNil)
def F_is_register : Fn := runS 1 body_is_register
def body_is_part : SS := sSeq (sIf (eOp gEqE (eVar 0) (eC W01.g_REGISTER)) (sSeq (sRet (eCallF 1 W01.F_is_register (aCons (eVar 1) (aNil))))
 (sNil)) (sNil))
 (sSeq (sRet (eOr (eCallF 1 W01.F_is_number (aCons (eVar 1) (aNil))) (eAnd (eOp gEqE (eVar 0) (eC W01.g_GIVEN)) (eCallF 1 W01.F_is_register (aCons (eVar 1) (aNil))))))
 (sNil))
def F_is_part : Fn := runS 2 body_is_part
def body_is_row : SS := sSeq (sIf (eOr (eNot (eApp gIsI (aCons (eVar 0) (aCons (eC (.ty "tuple")) (aNil))))) (eOr (eOp gEqE (eVar 0) (eApp gTupD (aNil))) (eOr (eNot (eApp gIsI (aCons (eOp gIx (eVar 0) (eC (.int 0))) (aCons (eC (.ty "str")) (aNil))))) (eUn (gTbIn true W01.t_PARTS) (eOp gIx (eVar 0) (eC (.int 0))))))) (sSeq (sRet (eC (.bl false)))
 (sNil)) (sNil))
 (sSeq (sAsg (gStar (gSet 1) (gSet 2)) (eVar 0))
 (sSeq (sAsg (gSet 3) (eUn (gTb W01.t_PARTS) (eVar 1)))
 (sSeq (sRet (eAnd (eOp gEqE (eApp gLen (aCons (eVar 2) (aNil))) (eApp gLen (aCons (eVar 3) (aNil)))) (eApp gAll (aCons (eComp (iApp gZipS (aCons (eVar 3) (aCons (eVar 2) (aNil)))) [4, 5] (gPair (gSet 4) (gSet 5)) (eC (.bl true)) (eCallF 2 W01.F_is_part (aCons (eVar 4) (aCons (eVar 5) (aNil))))) (aNil)))))
 (sNil))))
def F_is_row : Fn := runS 6 body_is_row
def body__law_kinds : SS := sSeq (sOwnD 0 [.inr "let", .inr "add", .inr "sub", .inr "half", .inr "odd", .inr "same", .inr "under"] (aCons (eC (.str "rx")) (aCons (eC (.str "rxx")) (aCons (eC (.str "rxx")) (aCons (eC (.str "rx")) (aCons (eC (.str "rx")) (aCons (eC (.str "xxn")) (aCons (eC (.str "xxn")) (aNil)))))))))
 (sSeq (sUpd 0 (eDisp [.inr "go", .inr "read", .inr "put", .inr "swap", .inr "new", .inr "free", .inr "end"] (aCons (eC (.str "n")) (aCons (eC (.str "rx")) (aCons (eC (.str "xx")) (aCons (eC (.str "rxxx")) (aCons (eC (.str "r")) (aCons (eC (.str "x")) (aCons (eC (.str "x")) (aNil))))))))))
 (sSeq (sRet (eVar 0))
 (sNil)))
def F__law_kinds : Fn := runS 1 body__law_kinds
def body__law_number : SS := sSeq (sAsg (gSet 1) (eCallF 2 WS.F_draw (aCons (eVar 0) (aCons (eC (.int 4)) (aNil)))))
 (sSeq (sRet (eOp gIx (eApp gLstD (aCons (eCallF 2 WS.F_draw (aCons (eVar 0) (aCons (eC (.int 10)) (aNil)))) (aCons (eOp gSubB (eC (.int 999999)) (eCallF 2 WS.F_draw (aCons (eVar 0) (aCons (eC (.int 3)) (aNil))))) (aCons (eCallF 2 WS.F_draw (aCons (eVar 0) (aCons (eOp gPow (eC (.int 10)) (eC (.int 6))) (aNil)))) (aCons (eCallF 2 WS.F_draw (aCons (eVar 0) (aCons (eC (.int 201)) (aNil)))) (aNil)))))) (eVar 1)))
 (sNil))
def F__law_number : Fn := runS 2 body__law_number
def body__law_part : SS := sSeq (sIf (eOp gEqE (eVar 1) (eC (.str "n"))) (sSeq (sRet (eCallF 2 WS.F_draw (aCons (eVar 0) (aCons (eVar 2) (aNil)))))
 (sNil)) (sNil))
 (sSeq (sIf (eOr (eOp gEqE (eVar 1) (eC (.str "r"))) (eOp gEqE (eCallF 2 WS.F_draw (aCons (eVar 0) (aCons (eC (.int 2)) (aNil)))) (eC (.int 1)))) (sSeq (sRet (eOp gIx (eC (.str "abcdefghijklmnopqrst")) (eCallF 2 WS.F_draw (aCons (eVar 0) (aCons (eC (.int 20)) (aNil))))))
 (sNil)) (sNil))
 (sSeq (sRet (eCallF 1 W01.F__law_number (aCons (eVar 0) (aNil))))
 (sNil)))
def F__law_part : Fn := runS 3 body__law_part
def body__law_row : SS := sSeq (sAsg (gSet 2) (eCallF 0 W01.F__law_kinds aNil))
 (sSeq (sAsg (gSet 3) (eOp gIx (eApp gSortedE (aCons (eVar 2) (aNil))) (eCallF 2 WS.F_draw (aCons (eVar 0) (aCons (eC (.int 14)) (aNil))))))
 (sSeq (sRet (eOp gAddB (eApp gTupD (aCons (eVar 3) (aNil))) (eApp gTuple (aCons (eComp (iSrc (eOp gGet (eVar 2) (eVar 3))) [4] (gSet 4) (eC (.bl true)) (eCallF 3 W01.F__law_part (aCons (eVar 0) (aCons (eVar 4) (aCons (eVar 1) (aNil)))))) (aNil)))))
 (sNil)))
def F__law_row : Fn := runS 5 body__law_row
def body__law_is_whole : SS := sSeq (sRet (eAnd (eApp gIsI (aCons (eVar 0) (aCons (eC (.ty "int")) (aNil)))) (eNot (eApp gIsI (aCons (eVar 0) (aCons (eC (.ty "bool")) (aNil)))))))
 (sNil)
def F__law_is_whole : Fn := runS 1 body__law_is_whole
def body__law_is_part : SS := sSeq (sIf (eApp gIsI (aCons (eVar 1) (aCons (eC (.ty "str")) (aNil)))) (sSeq (sRet (eAnd (eOp gNeE (eVar 0) (eC (.str "n"))) (eAnd (eOp gEqE (eApp gLen (aCons (eVar 1) (aNil))) (eC (.int 1))) (eChain gLeE gLeE (eC (.str "a")) (eVar 1) (eC (.str "t"))))))
 (sNil)) (sNil))
 (sSeq (sRet (eAnd (eOp gNeE (eVar 0) (eC (.str "r"))) (eAnd (eCallF 1 W01.F__law_is_whole (aCons (eVar 1) (aNil))) (eChain gLeE gLeE (eC (.int 0)) (eVar 1) (eC (.int 999999))))))
 (sNil))
def F__law_is_part : Fn := runS 2 body__law_is_part
def body__law_is_row : SS := sSeq (sAsg (gSet 1) (eCallF 0 W01.F__law_kinds aNil))
 (sSeq (sIf (eOr (eNot (eApp gIsI (aCons (eVar 0) (aCons (eC (.ty "tuple")) (aNil))))) (eOr (eOp gEqE (eApp gLen (aCons (eVar 0) (aNil))) (eC (.int 0))) (eNot (eApp gIsI (aCons (eOp gIx (eVar 0) (eC (.int 0))) (aCons (eC (.ty "str")) (aNil))))))) (sSeq (sRet (eC (.bl false)))
 (sNil)) (sNil))
 (sSeq (sIf (eOr (eOp (gInDn true) (eOp gIx (eVar 0) (eC (.int 0))) (eVar 1)) (eOp gNeE (eApp gLen (aCons (eVar 0) (aNil))) (eOp gAddB (eC (.int 1)) (eApp gLen (aCons (eOp gGet (eVar 1) (eOp gIx (eVar 0) (eC (.int 0)))) (aNil)))))) (sSeq (sRet (eC (.bl false)))
 (sNil)) (sNil))
 (sSeq (sRet (eOp gEqE (eComp (iApp gZipG (aCons (eOp gGet (eVar 1) (eOp gIx (eVar 0) (eC (.int 0)))) (aCons (eSl (eVar 0) (oSome (eC (.int 1))) oNone) (aNil)))) [2, 3] (gPair (gSet 2) (gSet 3)) (eNot (eCallF 2 W01.F__law_is_part (aCons (eVar 2) (aCons (eVar 3) (aNil))))) (eVar 2)) (eApp gLstD (aNil))))
 (sNil))))
def F__law_is_row : Fn := runS 4 body__law_is_row
def body__law_other : SS := sSeq (sAsg (gSet 2) (eCallF 2 WS.F_draw (aCons (eVar 0) (aCons (eC (.int 9)) (aNil)))))
 (sSeq (sIf (eOp gEqE (eVar 2) (eC (.int 0))) (sSeq (sAsg (gSet 5) (eApp gLstD (aCons (eC .non) (aCons (eC (.bl true)) (aCons (eC (.bl false)) (aCons (eC (.str "")) (aCons (eC (.str "u")) (aCons (eC (.str "A")) (aCons (eC (.str "end")) (aCons (eC (.int 0)) (aCons (eUn gNeg (eC (.int 1))) (aCons (eOp gPow (eC (.int 10)) (eC (.int 6))) (aCons (eOp gPow (eC (.int 10)) (eC (.int 39))) (aCons (eApp gTupD (aNil)) (aCons (eApp gLstD (aNil)) (aCons (eC (.dct [] [])) (aCons (eApp gTupD (aCons (eC (.str "go")) (aCons (eC (.int 0)) (aNil)))) (aCons (eC (.str "a")) (aNil)))))))))))))))))))
 (sSeq (sRet (eOp gIx (eVar 5) (eCallF 2 WS.F_draw (aCons (eVar 0) (aCons (eC (.int 16)) (aNil))))))
 (sNil))) (sNil))
 (sSeq (sIf (eApp gIsI (aCons (eVar 1) (aCons (eC (.ty "str")) (aNil)))) (sSeq (sAsg (gSet 4) (eApp gLstD (aCons (eOp gAddB (eVar 1) (eC (.str "a"))) (aCons (eSl (eVar 1) oNone (oSome (eUn gNeg (eC (.int 1))))) (aCons (eUn gUpper (eVar 1)) (aCons (eC (.str "go")) (aCons (eOp gAddB (eVar 1) (eVar 1)) (aCons (eApp gLstD (aCons (eVar 1) (aNil))) (aCons (eApp gTupD (aCons (eVar 1) (aNil))) (aCons (eC (.str "let")) (aNil)))))))))))
 (sSeq (sRet (eOp gIx (eVar 4) (eOp gSubB (eVar 2) (eC (.int 1)))))
 (sNil))) (sNil))
 (sSeq (sIf (eApp gIsI (aCons (eVar 1) (aCons (eC (.ty "int")) (aNil)))) (sSeq (sRet (eOp gIx (eApp gLstD (aCons (eOp gAddB (eVar 1) (eC (.int 1))) (aCons (eOp gSubB (eVar 1) (eC (.int 1))) (aCons (eOp gSubB (eUn gNeg (eC (.int 1))) (eVar 1)) (aCons (eOp gEqE (eVar 1) (eC (.int 1))) (aCons (eOp gAddB (eVar 1) (eOp gPow (eC (.int 10)) (eC (.int 6)))) (aCons (eApp gStr (aCons (eVar 1) (aNil))) (aCons (eApp gTupD (aCons (eVar 1) (aNil))) (aCons (eC (.str "b")) (aNil)))))))))) (eOp gSubB (eVar 2) (eC (.int 1)))))
 (sNil)) (sNil))
 (sSeq (sIf (eOr (eNot (eApp gIsI (aCons (eVar 1) (aCons (eC (.ty "tuple")) (aNil))))) (eOp gEqE (eVar 1) (eApp gTupD (aNil)))) (sSeq (sRet (eApp gTupD (aCons (eCallF 2 WS.F_draw (aCons (eVar 0) (aCons (eC (.int 3)) (aNil)))) (aNil))))
 (sNil)) (sNil))
 (sSeq (sAsg (gSet 3) (eCallF 2 WS.F_draw (aCons (eVar 0) (aCons (eApp gLen (aCons (eVar 1) (aNil))) (aNil)))))
 (sSeq (sAsg (gSet 4) (eApp gLstD (aCons (eOp gAddB (eSl (eVar 1) oNone (oSome (eVar 3))) (eSl (eVar 1) (oSome (eOp gAddB (eVar 3) (eC (.int 1)))) oNone)) (aCons (eOp gAddB (eSl (eVar 1) oNone (oSome (eOp gAddB (eVar 3) (eC (.int 1))))) (eSl (eVar 1) (oSome (eVar 3)) oNone)) (aCons (eUn gRev (eVar 1)) (aCons (eApp gList (aCons (eVar 1) (aNil))) (aCons (eOp gIx (eVar 1) (eVar 3)) (aCons (eApp gTupD (aNil)) (aNil)))))))))
 (sSeq (sRet (eOp gIx (eOp gAddB (eVar 4) (eApp gLstD (aCons (eOp gAddB (eSl (eVar 1) (oSome (eVar 3)) oNone) (eSl (eVar 1) oNone (oSome (eVar 3)))) (aCons (eOp gAddB (eVar 1) (eApp gTupD (aCons (eC (.int 0)) (aNil)))) (aNil))))) (eOp gSubB (eVar 2) (eC (.int 1)))))
 (sNil))))))))
def F__law_other : Fn := runS 6 body__law_other
def body__law_spoilt (R : Fn) : SS := sSeq (sIf (eOr (eNot (eApp gIsI (aCons (eVar 1) (aCons (eC (.ty "tuple")) (aNil))))) (eOr (eOp gEqE (eVar 1) (eApp gTupD (aNil))) (eOp gEqE (eCallF 2 WS.F_draw (aCons (eVar 0) (aCons (eC (.int 6)) (aNil)))) (eC (.int 0))))) (sSeq (sRet (eCallF 2 W01.F__law_other (aCons (eVar 0) (aCons (eVar 1) (aNil)))))
 (sNil)) (sNil))
 (sSeq (sAsg (gSet 2) (eCallF 2 WS.F_draw (aCons (eVar 0) (aCons (eApp gLen (aCons (eVar 1) (aNil))) (aNil)))))
 (sSeq (sRet (eOp gAddB (eOp gAddB (eSl (eVar 1) oNone (oSome (eVar 2))) (eApp gTupD (aCons (eCallF 2 R (aCons (eVar 0) (aCons (eOp gIx (eVar 1) (eVar 2)) (aNil)))) (aNil)))) (eSl (eVar 1) (oSome (eOp gAddB (eVar 2) (eC (.int 1)))) oNone)))
 (sNil)))
def F__law_spoilt : Nat → Fn
 | 0 => fun _ _ => none
 | n + 1 => runS 3 (body__law_spoilt (F__law_spoilt n))
def L1__law_right : SS := sSeq (sIf (eOr (eNot (eApp gIsI (aCons (eVar 3) (aCons (eC (.ty "bool")) (aNil))))) (eOp gNeE (eVar 3) (eVar 2))) (sSeq (sRet (eC (.bl false)))
 (sNil)) (sNil))
 (sNil)
def body__law_right : SS := sSeq (sAsg (gSet 1) (eApp gRepr (aCons (eVar 0) (aNil))))
 (sSeq (sAsg (gSet 2) (eCallF 1 W01.F__law_is_row (aCons (eVar 0) (aNil))))
 (sSeq (sFor (iSrc (eApp gTupD (aCons (eCallF 1 W01.F_is_row (aCons (eVar 0) (aNil))) (aCons (eCallK 1 W01.F_is_row [0] (aNil) (aCons (eVar 0) (aNil))) (aCons (eCallF 1 W01.F_is_row (aCons (eVar 0) (aNil))) (aNil)))))) (gSet 3) (W01.L1__law_right))
 (sSeq (sRet (eOp gEqE (eApp gRepr (aCons (eVar 0) (aNil))) (eVar 1)))
 (sNil))))
def F__law_right : Fn := runS 4 body__law_right
def L1_law : SS := sSeq (sAsg (gSet 4) (eOp gEqE (eCallF 2 WS.F_draw (aCons (eVar 1) (aCons (eC (.int 3)) (aNil)))) (eC (.int 0))))
 (sSeq (sAsg (gSet 5) (eCallF 2 W01.F__law_row (aCons (eVar 1) (aCons (eOp gIx (eApp gLstD (aCons (eC (.int 1)) (aCons (eC (.int 200)) (aCons (eOp gPow (eC (.int 10)) (eC (.int 6))) (aNil))))) (eCallF 2 WS.F_draw (aCons (eVar 1) (aCons (eC (.int 3)) (aNil))))) (aNil)))))
 (sSeq (sAsg (gSet 6) (eCallF 2 (W01.F__law_spoilt 12) (aCons (eVar 1) (aCons (eVar 5) (aNil)))))
 (sSeq (sIf (eVar 4) (sSeq (sAsg (gSet 6) (eCallF 2 (W01.F__law_spoilt 12) (aCons (eVar 1) (aCons (eVar 6) (aNil)))))
 (sNil)) (sNil))
 (sSeq (sIf (eOr (eOp gIsNot (eCallF 1 W01.F_is_row (aCons (eVar 5) (aNil))) (eC (.bl true))) (eOr (eNot (eCallF 1 W01.F__law_right (aCons (eVar 6) (aNil)))) (eNot (eCallF 1 W01.F__law_right (aCons (eVar 5) (aNil)))))) (sSeq (sRet (eC (.bl false)))
 (sNil)) (sNil))
 (sNil)))))
def body_law : SS := sSeq (sAsg (gSet 1) (eCallF 1 WS.F_deck (aCons (eVar 0) (aNil))))
 (sSeq (sFor (iApp gRange1 (aCons (eC (.int 12)) (aNil))) (gSet 2) (W01.L1_law))
 (sSeq (sOwnL 3 (aCons (eC .non) (aCons (eC (.bl true)) (aCons (eC (.int 7)) (aCons (eC (.str "")) (aCons (eC (.str "end a")) (aCons (eApp gLstD (aNil)) (aCons (eC (.dct [] [])) (aCons (eApp gTupD (aNil)) (aCons (eApp gTupD (aCons (eC (.str "end")) (aNil))) (aCons (eApp gTupD (aCons (eC (.str "end")) (aCons (eC (.str "a")) (aNil)))) (aCons (eApp gLstD (aCons (eC (.str "end")) (aCons (eC (.str "a")) (aNil)))) (aCons (eApp gTupD (aCons (eC (.str "end")) (aCons (eC (.str "u")) (aNil)))) (aNil))))))))))))))
 (sSeq (sApp 3 (eApp gTupD (aCons (eC (.str "end")) (aCons (eOp gPow (eC (.int 10)) (eC (.int 6))) (aNil)))))
 (sSeq (sAsg (gSet 3) (eOp gAddB (eVar 3) (eApp gLstD (aCons (eApp gTupD (aCons (eC (.str "go")) (aCons (eC (.str "a")) (aNil)))) (aCons (eApp gTupD (aCons (eC (.str "go")) (aCons (eC (.int 999999)) (aNil)))) (aCons (eApp gTupD (aCons (eC (.str "go")) (aCons (eC (.bl true)) (aNil)))) (aCons (eApp gTupD (aCons (eC (.str "new")) (aCons (eC (.int 0)) (aNil)))) (aCons (eApp gTupD (aCons (eC (.str "let")) (aCons (eC (.str "ab")) (aCons (eC (.int 1)) (aNil))))) (aCons (eApp gTupD (aCons (eC (.str "let")) (aCons (eC (.str "")) (aCons (eC (.int 1)) (aNil))))) (aNil))))))))))
 (sSeq (sAsg (gSet 3) (eOp gAddB (eVar 3) (eApp gLstD (aCons (eApp gTupD (aCons (eC (.str "End")) (aCons (eC (.str "a")) (aNil)))) (aCons (eApp gTupD (aCons (eC (.str "end")) (aCons (eC (.str "a")) (aCons (eC (.str "a")) (aNil))))) (aCons (eApp gTupD (aCons (eC (.str "end")) (aCons (eC .non) (aNil)))) (aCons (eApp gTupD (aCons (eC (.str "free")) (aCons (eUn gNeg (eC (.int 1))) (aNil)))) (aCons (eApp gTupD (aCons (eC (.str "end")) (aCons (eOp gPow (eC (.int 10)) (eC (.int 39))) (aNil)))) (aNil)))))))))
 (sSeq (sAsg (gSet 3) (eOp gAddB (eVar 3) (eApp gLstD (aCons (eApp gTupD (aCons (eApp gTupD (aCons (eC (.str "end")) (aCons (eC (.str "a")) (aNil)))) (aNil))) (aCons (eApp gTupD (aCons (eC (.dct [] [])) (aCons (eC (.str "a")) (aNil)))) (aCons (eApp gTupD (aCons (eC .non) (aNil))) (aCons (eApp gTupD (aCons (eApp gLstD (aNil)) (aCons (eC (.int 0)) (aNil)))) (aNil))))))))
 (sSeq (sRet (eOp gEqE (eComp (iSrc (eVar 3)) [6] (gSet 6) (eNot (eCallF 1 W01.F__law_right (aCons (eVar 6) (aNil)))) (eVar 6)) (eApp gLstD (aNil))))
 (sNil))))))))
def F_law : Fn := runS 7 body_law
end W01
namespace W02
open PySem PySem.Spec PyProof.Rows L2 WS
noncomputable section
def g_JUMP : D := .str "jump"
def g_LAST : D := .tup [.str "end", .str "go"]
def g_MOST_ROWS : D := .int 200
def q_IndexError : List (Str × Bool) := [("Program", false), ("WeaveError", false), ("NoProgram", false), ("NoText", false), ("NoGear", false), ("NoPlan", false), ("NoRow", false), ("TooMany", false)]
theorem q_IndexError_Program {ns : List Str} {ds : List D} : gIsQ (some "IndexError") q_IndexError (.ins "Program" ns ds) = some (.bl false) := nrfl rfl
theorem q_IndexError_NoProgram {ns : List Str} {ds : List D} : gIsQ (some "IndexError") q_IndexError (.ins "NoProgram" ns ds) = some (.bl false) := nrfl rfl
def q_ValueError : List (Str × Bool) := [("Program", false), ("WeaveError", true), ("NoProgram", true), ("NoText", true), ("NoGear", true), ("NoPlan", true), ("NoRow", true), ("TooMany", true)]
theorem q_ValueError_Program {ns : List Str} {ds : List D} : gIsQ (some "ValueError") q_ValueError (.ins "Program" ns ds) = some (.bl false) := nrfl rfl
theorem q_ValueError_NoProgram {ns : List Str} {ds : List D} : gIsQ (some "ValueError") q_ValueError (.ins "NoProgram" ns ds) = some (.bl true) := nrfl rfl
def q_WeaveError : List (Str × Bool) := [("Program", false), ("WeaveError", true), ("NoProgram", true), ("NoText", true), ("NoGear", true), ("NoPlan", true), ("NoRow", true), ("TooMany", true)]
theorem q_WeaveError_Program {ns : List Str} {ds : List D} : gIsQ none q_WeaveError (.ins "Program" ns ds) = some (.bl false) := nrfl rfl
theorem q_WeaveError_NoProgram {ns : List Str} {ds : List D} : gIsQ none q_WeaveError (.ins "NoProgram" ns ds) = some (.bl true) := nrfl rfl
def q_TooMany : List (Str × Bool) := [("Program", false), ("WeaveError", false), ("NoProgram", false), ("NoText", false), ("NoGear", false), ("NoPlan", false), ("NoRow", false), ("TooMany", true)]
theorem q_TooMany_Program {ns : List Str} {ds : List D} : gIsQ none q_TooMany (.ins "Program" ns ds) = some (.bl false) := nrfl rfl
theorem q_TooMany_NoProgram {ns : List Str} {ds : List D} : gIsQ none q_TooMany (.ins "NoProgram" ns ds) = some (.bl false) := nrfl rfl
def q_NoRow : List (Str × Bool) := [("Program", false), ("WeaveError", false), ("NoProgram", false), ("NoText", false), ("NoGear", false), ("NoPlan", false), ("NoRow", true), ("TooMany", false)]
theorem q_NoRow_Program {ns : List Str} {ds : List D} : gIsQ none q_NoRow (.ins "Program" ns ds) = some (.bl false) := nrfl rfl
theorem q_NoRow_NoProgram {ns : List Str} {ds : List D} : gIsQ none q_NoRow (.ins "NoProgram" ns ds) = some (.bl false) := nrfl rfl
def q_NoPlan : List (Str × Bool) := [("Program", false), ("WeaveError", false), ("NoProgram", false), ("NoText", false), ("NoGear", false), ("NoPlan", true), ("NoRow", false), ("TooMany", false)]
theorem q_NoPlan_Program {ns : List Str} {ds : List D} : gIsQ none q_NoPlan (.ins "Program" ns ds) = some (.bl false) := nrfl rfl
theorem q_NoPlan_NoProgram {ns : List Str} {ds : List D} : gIsQ none q_NoPlan (.ins "NoProgram" ns ds) = some (.bl false) := nrfl rfl
def q_NoGear : List (Str × Bool) := [("Program", false), ("WeaveError", false), ("NoProgram", false), ("NoText", false), ("NoGear", true), ("NoPlan", false), ("NoRow", false), ("TooMany", false)]
theorem q_NoGear_Program {ns : List Str} {ds : List D} : gIsQ none q_NoGear (.ins "Program" ns ds) = some (.bl false) := nrfl rfl
theorem q_NoGear_NoProgram {ns : List Str} {ds : List D} : gIsQ none q_NoGear (.ins "NoProgram" ns ds) = some (.bl false) := nrfl rfl
def q_NoText : List (Str × Bool) := [("Program", false), ("WeaveError", false), ("NoProgram", false), ("NoText", true), ("NoGear", false), ("NoPlan", false), ("NoRow", false), ("TooMany", false)]
theorem q_NoText_Program {ns : List Str} {ds : List D} : gIsQ none q_NoText (.ins "Program" ns ds) = some (.bl false) := nrfl rfl
theorem q_NoText_NoProgram {ns : List Str} {ds : List D} : gIsQ none q_NoText (.ins "NoProgram" ns ds) = some (.bl false) := nrfl rfl
def q_NoProgram : List (Str × Bool) := [("Program", false), ("WeaveError", false), ("NoProgram", true), ("NoText", false), ("NoGear", false), ("NoPlan", false), ("NoRow", false), ("TooMany", false)]
theorem q_NoProgram_Program {ns : List Str} {ds : List D} : gIsQ none q_NoProgram (.ins "Program" ns ds) = some (.bl false) := nrfl rfl
theorem q_NoProgram_NoProgram {ns : List Str} {ds : List D} : gIsQ none q_NoProgram (.ins "NoProgram" ns ds) = some (.bl true) := nrfl rfl
def y_NoProgram : List (Str × Bool) := [("WeaveError", false), ("NoProgram", true), ("NoText", false), ("NoGear", false), ("NoPlan", false), ("NoRow", false), ("TooMany", false)]
theorem y_NoProgram_NoProgram : y_NoProgram.lookup ("NoProgram" : Str) = some true := by decide +kernel
theorem l_rows_Program {x0 : D} : gFld ["Program"] "rows" (.ins "Program" ["rows"] [x0]) = some x0 := nrfl rfl
theorem l_row_NoProgram {x0 : D} : gFld ["NoProgram", "NoText"] "row" (.ins "NoProgram" ["row"] [x0]) = some x0 := nrfl rfl
theorem l_row_NoText {x0 : D} : gFld ["NoProgram", "NoText"] "row" (.ins "NoText" ["row"] [x0]) = some x0 := nrfl rfl
def body_jump_of : SS := sSeq (sIf (eOp gIn (eC W02.g_JUMP) (eUn (gTb W01.t_PARTS) (eOp gIx (eVar 0) (eC (.int 0))))) (sSeq (sRet (eOp gIx (eVar 0) (eUn gNeg (eC (.int 1)))))
 (sNil)) (sNil))
 (sSeq (sRet (eC .non))
 (sNil))
def F_jump_of : Fn := runS 1 body_jump_of
def body_is_row_of : SS := sSeq (sIf (eNot (eCallF 1 W01.F_is_row (aCons (eVar 1) (aNil)))) (sSeq (sRet (eC (.bl false)))
 (sNil)) (sNil))
 (sSeq (sAsg (gSet 2) (eCallF 1 W02.F_jump_of (aCons (eVar 1) (aNil))))
 (sSeq (sRet (eOr (eOp gIs (eVar 2) (eC .non)) (eOp gLt (eVar 2) (eVar 0))))
 (sNil)))
def F_is_row_of : Fn := runS 3 body_is_row_of
def body_ends_well : SS := sSeq (sRet (eOp gIn (eOp gIx (eVar 0) (eC (.int 0))) (eC W02.g_LAST)))
 (sNil)
def F_ends_well : Fn := runS 1 body_ends_well
def L1_Program : SS := sSeq (sIf (eNot (eCallF 2 W02.F_is_row_of (aCons (eApp gLen (aCons (eVar 1) (aNil))) (aCons (eVar 3) (aNil))))) (sSeq (sRaise "NoProgram" "row" okDI (eVar 2))
 (sNil)) (sNil))
 (sNil)
def front_Program : SS := sSeq (sIf (eOr (eNot (eApp gIsI (aCons (eVar 1) (aCons (eC (.ty "tuple")) (aNil))))) (eNot (eChain gLeE gLeE (eC (.int 1)) (eApp gLen (aCons (eVar 1) (aNil))) (eC W02.g_MOST_ROWS)))) (sSeq (sRaise "NoProgram" "row" okDI (eUn gNeg (eC (.int 1))))
 (sNil)) (sNil))
 (sSeq (sFor (iApp gEnumG (aCons (eVar 1) (aNil))) (gPair (gSet 2) (gSet 3)) (W02.L1_Program))
 (sSeq (sIf (eNot (eCallF 1 W02.F_ends_well (aCons (eOp gIx (eVar 1) (eUn gNeg (eC (.int 1)))) (aNil)))) (sSeq (sRaise "NoProgram" "row" okDI (eApp gLen (aCons (eVar 1) (aNil))))
 (sNil)) (sNil))
 (sNil)))
def fs_Program : List (Str × Nat) := [("rows", 1)]
def I_Program : Addr → FnX := runI "Program" 4 front_Program fs_Program
noncomputable def F_Program : FnX := mkF I_Program
def body__law_pick : SS := sSeq (sRet (eOp gIx (eVar 1) (eCallF 2 WS.F_draw (aCons (eVar 0) (aCons (eApp gLen (aCons (eVar 1) (aNil))) (aNil))))))
 (sNil)
def F__law_pick : Fn := runS 2 body__law_pick
def body__law_rows : SS := sSeq (sAsg (gSet 2) (eComp (iApp gRange1 (aCons (eOp gSubB (eVar 1) (eC (.int 1))) (aNil))) [4] (gSet 4) (eC (.bl true)) (eCallF 2 W01.F__law_row (aCons (eVar 0) (aCons (eVar 1) (aNil))))))
 (sSeq (sAsg (gSet 3) (eCallF 3 W01.F__law_part (aCons (eVar 0) (aCons (eC (.str "x")) (aCons (eVar 1) (aNil))))))
 (sSeq (sRet (eOp gAddB (eApp gTuple (aCons (eVar 2) (aNil))) (eApp gTupD (aCons (eCallF 2 W02.F__law_pick (aCons (eVar 0) (aCons (eApp gLstD (aCons (eApp gTupD (aCons (eC (.str "end")) (aCons (eVar 3) (aNil)))) (aCons (eApp gTupD (aCons (eC (.str "go")) (aCons (eCallF 2 WS.F_draw (aCons (eVar 0) (aCons (eVar 1) (aNil)))) (aNil)))) (aNil)))) (aNil)))) (aNil)))))
 (sNil)))
def F__law_rows : Fn := runS 5 body__law_rows
def body__law_many : SS := sSeq (sAsg (gSet 1) (eOp gEqE (eCallF 2 WS.F_draw (aCons (eVar 0) (aCons (eC (.int 8)) (aNil)))) (eC (.int 5))))
 (sSeq (sRet (eOp gIx (eApp gLstD (aCons (eOp gAddB (eC (.int 1)) (eCallF 2 WS.F_draw (aCons (eVar 0) (aCons (eC (.int 12)) (aNil))))) (aCons (eOp gSubB (eC (.int 200)) (eCallF 2 WS.F_draw (aCons (eVar 0) (aCons (eC (.int 2)) (aNil))))) (aNil)))) (eApp gInt (aCons (eVar 1) (aNil)))))
 (sNil))
def F__law_many : Fn := runS 2 body__law_many
def L1__law_wrong : SS := sSeq (sIf (eNot (eCallF 1 W01.F__law_is_row (aCons (eOp gIx (eVar 0) (eVar 1)) (aNil)))) (sSeq (sRet (eVar 1))
 (sNil)) (sNil))
 (sSeq (sIf (eAnd (eOp gIn (eC (.str "n")) (eOp gGet (eCallF 0 W01.F__law_kinds aNil) (eOp gIx (eOp gIx (eVar 0) (eVar 1)) (eC (.int 0))))) (eOp gGe (eOp gIx (eOp gIx (eVar 0) (eVar 1)) (eUn gNeg (eC (.int 1)))) (eApp gLen (aCons (eVar 0) (aNil))))) (sSeq (sRet (eVar 1))
 (sNil)) (sNil))
 (sNil))
def body__law_wrong : SS := sSeq (sFor (iApp gRange1 (aCons (eApp gLen (aCons (eVar 0) (aNil))) (aNil))) (gSet 1) (W02.L1__law_wrong))
 (sSeq (sRet (eIf (eOp gIn (eOp gIx (eOp gIx (eVar 0) (eUn gNeg (eC (.int 1)))) (eC (.int 0))) (eApp gTupD (aCons (eC (.str "end")) (aCons (eC (.str "go")) (aNil))))) (eC .non) (eApp gLen (aCons (eVar 0) (aNil)))))
 (sNil))
def F__law_wrong : Fn := runS 2 body__law_wrong
def body__law_classes : SS := sSeq (sAsg (gSet 1) (eApp gLstD (aCons (eUn (gIsQ none W02.q_NoProgram) (eVar 0)) (aCons (eUn (gIsQ none W02.q_NoText) (eVar 0)) (aCons (eUn (gIsQ none W02.q_NoGear) (eVar 0)) (aNil))))))
 (sSeq (sAsg (gSet 1) (eOp gAddB (eVar 1) (eApp gLstD (aCons (eUn (gIsQ none W02.q_NoPlan) (eVar 0)) (aCons (eUn (gIsQ none W02.q_NoRow) (eVar 0)) (aCons (eUn (gIsQ none W02.q_TooMany) (eVar 0)) (aNil)))))))
 (sSeq (sRet (eOp gAddB (eVar 1) (eApp gLstD (aCons (eUn (gIsQ none W02.q_WeaveError) (eVar 0)) (aCons (eUn (gIsQ (some "ValueError") W02.q_ValueError) (eVar 0)) (aCons (eUn (gIsQ (some "IndexError") W02.q_IndexError) (eVar 0)) (aNil)))))))
 (sNil)))
def F__law_classes : Fn := runS 2 body__law_classes
def body__law_made : SS := sSeq (sAsg (gSet 1) (eC .non))
 (sSeq (sTry W02.y_NoProgram 2 (sSeq (sAsgX (gSet 1) (xApp gTupD (axCons (xE (eC (.str "made"))) (axCons (xUn (gFld ["Program"] "rows") (xCallF 1 W02.F_Program (aCons (eVar 0) (aNil)))) (xA (aNil))))))
 (sNil)) (sSeq (sAsg (gSet 1) (eApp gTupD (aCons (eCallF 1 W02.F__law_classes (aCons (eVar 2) (aNil))) (aCons (eUn (gFld ["NoProgram", "NoText"] "row") (eVar 2)) (aNil)))))
 (sNil)))
 (sSeq (sRet (eVar 1))
 (sNil)))
def F__law_made : Fn := runS 3 body__law_made
def body__law_due : SS := sSeq (sAsg (gSet 1) (eUn gNeg (eC (.int 1))))
 (sSeq (sIf (eAnd (eApp gIsI (aCons (eVar 0) (aCons (eC (.ty "tuple")) (aNil)))) (eChain gLeE gLeE (eC (.int 1)) (eApp gLen (aCons (eVar 0) (aNil))) (eC (.int 200)))) (sSeq (sAsg (gSet 1) (eCallF 1 W02.F__law_wrong (aCons (eVar 0) (aNil))))
 (sNil)) (sNil))
 (sSeq (sIf (eOp gIs (eVar 1) (eC .non)) (sSeq (sRet (eApp gTupD (aCons (eC (.str "made")) (aCons (eVar 0) (aNil)))))
 (sNil)) (sNil))
 (sSeq (sRet (eApp gTupD (aCons (eApp gLstD (aCons (eC (.bl true)) (aCons (eC (.bl false)) (aCons (eC (.bl false)) (aCons (eC (.bl false)) (aCons (eC (.bl false)) (aCons (eC (.bl false)) (aCons (eC (.bl true)) (aCons (eC (.bl true)) (aCons (eC (.bl false)) (aNil))))))))))) (aCons (eVar 1) (aNil)))))
 (sNil))))
def F__law_due : Fn := runS 2 body__law_due
def body__law_right : SS := sSeq (sAsg (gSet 1) (eApp gRepr (aCons (eVar 0) (aNil))))
 (sSeq (sAsg (gSet 2) (eApp gRepr (aCons (eCallF 1 W02.F__law_due (aCons (eVar 0) (aNil))) (aNil))))
 (sSeq (sRet (eAnd (eOp gEqE (eApp gRepr (aCons (eCallF 1 W02.F__law_made (aCons (eVar 0) (aNil))) (aNil))) (eVar 2)) (eAnd (eOp gEqE (eApp gRepr (aCons (eCallF 1 W02.F__law_made (aCons (eVar 0) (aNil))) (aNil))) (eVar 2)) (eOp gEqE (eApp gRepr (aCons (eVar 0) (aNil))) (eVar 1)))))
 (sNil)))
def F__law_right : Fn := runS 3 body__law_right
def L1__law_turned : SS := sSeq (sApp 4 (eOp gAddB (eOp gAddB (eSl (eVar 1) oNone (oSome (eVar 3))) (eApp gTupD (aCons (eVar 5) (aNil)))) (eSl (eVar 1) (oSome (eOp gAddB (eVar 3) (eC (.int 1)))) oNone)))
 (sNil)
def body__law_turned : SS := sSeq (sAsg (gSet 2) (eCallF 2 WS.F_draw (aCons (eVar 0) (aCons (eC (.int 6)) (aNil)))))
 (sSeq (sAsg (gSet 3) (eCallF 2 WS.F_draw (aCons (eVar 0) (aCons (eApp gLen (aCons (eVar 1) (aNil))) (aNil)))))
 (sSeq (sOwnL 4 (aCons (eOp gAddB (eSl (eVar 1) oNone (oSome (eVar 3))) (eSl (eVar 1) (oSome (eOp gAddB (eVar 3) (eC (.int 1)))) oNone)) (aCons (eOp gAddB (eSl (eVar 1) oNone (oSome (eOp gAddB (eVar 3) (eC (.int 1))))) (eSl (eVar 1) (oSome (eVar 3)) oNone)) (aCons (eUn gRev (eVar 1)) (aNil)))))
 (sSeq (sApp 4 (eOp gAddB (eSl (eVar 1) oNone (oSome (eUn gNeg (eC (.int 1))))) (eApp gTupD (aCons (eCallF 2 W01.F__law_row (aCons (eVar 0) (aCons (eApp gLen (aCons (eVar 1) (aNil))) (aNil)))) (aNil)))))
 (sSeq (sFor (iSrc (eApp gTupD (aCons (eApp gTupD (aCons (eC (.str "go")) (aCons (eApp gLen (aCons (eVar 1) (aNil))) (aNil)))) (aCons (eApp gTupD (aCons (eC (.str "same")) (aCons (eC (.str "a")) (aCons (eC (.int 0)) (aCons (eApp gLen (aCons (eVar 1) (aNil))) (aNil)))))) (aNil))))) (gSet 5) (W02.L1__law_turned))
 (sSeq (sRet (eOp gIx (eVar 4) (eVar 2)))
 (sNil))))))
def F__law_turned : Fn := runS 6 body__law_turned
def L1_law : SS := sSeq (sAsg (gSet 6) (eCallF 2 WS.F_draw (aCons (eVar 1) (aCons (eC (.int 3)) (aNil)))))
 (sSeq (sAsg (gSet 7) (eIf (eOp gEqE (eVar 6) (eC (.int 0))) (eCallF 2 W02.F__law_turned (aCons (eVar 1) (aCons (eVar 3) (aNil)))) (eCallF 2 (W01.F__law_spoilt 12) (aCons (eVar 1) (aCons (eVar 3) (aNil))))))
 (sSeq (sIf (eOp gEqE (eVar 6) (eC (.int 1))) (sSeq (sAsg (gSet 7) (eCallF 2 (W01.F__law_spoilt 12) (aCons (eVar 1) (aCons (eVar 7) (aNil)))))
 (sNil)) (sNil))
 (sSeq (sIf (eOr (eNot (eCallF 1 W02.F__law_right (aCons (eVar 7) (aNil)))) (eOp gNeE (eUn (gFld ["Program"] "rows") (eVar 4)) (eVar 3))) (sSeq (sRet (eC (.bl false)))
 (sNil)) (sNil))
 (sNil))))
def L2_law : SS := sSeq (sAsg (gSet 3) (eCallF 2 W02.F__law_rows (aCons (eVar 1) (aCons (eCallF 1 W02.F__law_many (aCons (eVar 1) (aNil))) (aNil)))))
 (sSeq (sAsg (gSet 4) (eOk (xCallK 1 W02.F_Program [0] aNil (aCons (eVar 3) (aNil)))))
 (sSeq (sIf (eOr (eOp gNeE (eUn (gFld ["Program"] "rows") (eVar 4)) (eVar 3)) (eNot (eCallF 1 W02.F__law_right (aCons (eVar 3) (aNil))))) (sSeq (sRet (eC (.bl false)))
 (sNil)) (sNil))
 (sSeq (sFor (iApp gRange1 (aCons (eC (.int 6)) (aNil))) (gSet 5) (W02.L1_law))
 (sNil))))
def body_law : SS := sSeq (sAsg (gSet 1) (eCallF 1 WS.F_deck (aCons (eVar 0) (aNil))))
 (sSeq (sFor (iApp gRange1 (aCons (eC (.int 4)) (aNil))) (gSet 2) (W02.L2_law))
 (sSeq (sRet (eC (.bl true)))
 (sNil)))
def F_law : Fn := runS 8 body_law
end
end W02
namespace W03
open PySem PySem.Spec PyProof.Rows L2 WS
noncomputable section
theorem l_rows_Program {x0 : D} : gFld ["Program"] "rows" (.ins "Program" ["rows"] [x0]) = some x0 := nrfl rfl
theorem l_row_NoProgram {x0 : D} : gFld ["NoProgram", "NoText"] "row" (.ins "NoProgram" ["row"] [x0]) = some x0 := nrfl rfl
theorem l_row_NoText {x0 : D} : gFld ["NoProgram", "NoText"] "row" (.ins "NoText" ["row"] [x0]) = some x0 := nrfl rfl
def body__law_refused : SS := sSeq (sAsg (gSet 2) (eApp gRepr (aCons (eVar 0) (aNil))))
 (sSeq (sAsg (gSet 3) (eApp gRepr (aCons (eApp gTupD (aCons (eApp gLstD (aCons (eC (.bl true)) (aCons (eC (.bl false)) (aCons (eC (.bl false)) (aCons (eC (.bl false)) (aCons (eC (.bl false)) (aCons (eC (.bl false)) (aCons (eC (.bl true)) (aCons (eC (.bl true)) (aCons (eC (.bl false)) (aNil))))))))))) (aCons (eVar 1) (aNil)))) (aNil))))
 (sSeq (sRet (eAnd (eOp gEqE (eApp gRepr (aCons (eCallF 1 W02.F__law_made (aCons (eVar 0) (aNil))) (aNil))) (eVar 3)) (eAnd (eOp gEqE (eApp gRepr (aCons (eCallF 1 W02.F__law_made (aCons (eVar 0) (aNil))) (aNil))) (eVar 3)) (eOp gEqE (eApp gRepr (aCons (eVar 0) (aNil))) (eVar 2)))))
 (sNil)))
def F__law_refused : Fn := runS 4 body__law_refused
def L1__law_deep : SS := sSeq (sAsg (gSet 1) (eApp gTupD (aCons (eVar 1) (aNil))))
 (sNil)
def body__law_deep : SS := sSeq (sAsg (gSet 1) (eApp gTupD (aNil)))
 (sSeq (sFor (iApp gRange1 (aCons (eVar 0) (aNil))) (gSet 2) (W03.L1__law_deep))
 (sSeq (sRet (eVar 1))
 (sNil)))
def F__law_deep : Fn := runS 3 body__law_deep
def L1_law : SS := sSeq (sAsg (gSet 8) (eOp gAddB (eOp gMulB (eApp gTupD (aCons (eVar 2) (aNil))) (eOp gSubB (eVar 5) (eC (.int 1)))) (eApp gTupD (aCons (eApp gTupD (aCons (eC (.str "go")) (aCons (eOp gSubB (eVar 5) (eC (.int 1))) (aNil)))) (aNil)))))
 (sSeq (sAsg (gSet 9) (eApp gTupD (aCons (eC (.str "under")) (aCons (eC (.str "t")) (aCons (eC (.int 999999)) (aCons (eVar 5) (aNil)))))))
 (sSeq (sAsg (gSet 7) (eCallF 2 WS.F_draw (aCons (eVar 1) (aCons (eVar 5) (aNil)))))
 (sSeq (sIf (eOr (eOp gNeE (eCallF 1 W02.F__law_made (aCons (eVar 8) (aNil))) (eApp gTupD (aCons (eC (.str "made")) (aCons (eVar 8) (aNil))))) (eNot (eCallF 2 W03.F__law_refused (aCons (eOp gAddB (eSl (eVar 8) oNone (oSome (eUn gNeg (eC (.int 1))))) (eApp gTupD (aCons (eApp gTupD (aCons (eC (.str "go")) (aCons (eVar 5) (aNil)))) (aNil)))) (aCons (eOp gSubB (eVar 5) (eC (.int 1))) (aNil)))))) (sSeq (sRet (eC (.bl false)))
 (sNil)) (sNil))
 (sSeq (sIf (eNot (eCallF 2 W03.F__law_refused (aCons (eOp gAddB (eOp gAddB (eSl (eVar 8) oNone (oSome (eVar 7))) (eApp gTupD (aCons (eVar 9) (aNil)))) (eSl (eVar 8) (oSome (eOp gAddB (eVar 7) (eC (.int 1)))) oNone)) (aCons (eVar 7) (aNil))))) (sSeq (sRet (eC (.bl false)))
 (sNil)) (sNil))
 (sSeq (sIf (eOr (eNot (eCallF 2 W03.F__law_refused (aCons (eOp gAddB (eSl (eVar 8) oNone (oSome (eUn gNeg (eC (.int 1))))) (eApp gTupD (aCons (eApp gTupD (aCons (eC (.str "let")) (aCons (eC (.str "a")) (aCons (eC (.int 0)) (aNil))))) (aNil)))) (aCons (eVar 5) (aNil))))) (eNot (eCallF 2 W03.F__law_refused (aCons (eOp gAddB (eSl (eVar 8) oNone (oSome (eUn gNeg (eC (.int 1))))) (eApp gTupD (aCons (eApp gTupD (aCons (eC (.str "free")) (aCons (eC (.int 0)) (aNil)))) (aNil)))) (aCons (eVar 5) (aNil)))))) (sSeq (sRet (eC (.bl false)))
 (sNil)) (sNil))
 (sNil))))))
def L2_law : SS := sSeq (sAsg (gSet 7) (eCallF 2 WS.F_draw (aCons (eVar 1) (aCons (eC (.int 60)) (aNil)))))
 (sSeq (sIf (eOr (eNot (eCallF 2 W03.F__law_refused (aCons (eOp gAddB (eOp gMulB (eApp gTupD (aCons (eVar 2) (aNil))) (eVar 7)) (eApp gTupD (aCons (eVar 4) (aNil)))) (aCons (eVar 7) (aNil))))) (eNot (eCallF 2 W03.F__law_refused (aCons (eOp gAddB (eOp gMulB (eApp gTupD (aCons (eVar 2) (aNil))) (eVar 7)) (eApp gTupD (aCons (eVar 4) (aCons (eVar 2) (aCons (eVar 4) (aNil)))))) (aCons (eVar 7) (aNil)))))) (sSeq (sRet (eC (.bl false)))
 (sNil)) (sNil))
 (sSeq (sIf (eNot (eCallF 2 W03.F__law_refused (aCons (eOp gAddB (eOp gAddB (eApp gTupD (aCons (eVar 4) (aNil))) (eOp gMulB (eApp gTupD (aCons (eVar 2) (aNil))) (eVar 7))) (eApp gTupD (aCons (eVar 3) (aNil)))) (aCons (eC (.int 0)) (aNil))))) (sSeq (sRet (eC (.bl false)))
 (sNil)) (sNil))
 (sNil)))
def L3_law : SS := sSeq (sIf (eNot (eCallF 2 W03.F__law_refused (aCons (eOp gAddB (eOp gMulB (eApp gTupD (aCons (eVar 3) (aNil))) (eOp gSubB (eVar 5) (eC (.int 1)))) (eApp gTupD (aCons (eVar 2) (aNil)))) (aCons (eUn gNeg (eC (.int 1))) (aNil))))) (sSeq (sRet (eC (.bl false)))
 (sNil)) (sNil))
 (sNil)
def L4_law : SS := sSeq (sIf (eNot (eCallF 2 W03.F__law_refused (aCons (eVar 4) (aCons (eUn gNeg (eC (.int 1))) (aNil))))) (sSeq (sRet (eC (.bl false)))
 (sNil)) (sNil))
 (sNil)
def body_law : SS := sSeq (sAsg (gSet 1) (eCallF 1 WS.F_deck (aCons (eVar 0) (aNil))))
 (sSeq (sAsg (gSet 2) (eApp gTupD (aCons (eC (.str "end")) (aCons (eCallF 1 W01.F__law_number (aCons (eVar 1) (aNil))) (aNil)))))
 (sSeq (sAsg (gSet 3) (eCallF 2 W01.F__law_row (aCons (eVar 1) (aCons (eC (.int 1)) (aNil)))))
 (sSeq (sFor (iSrc (eApp gLstD (aCons (eC .non) (aCons (eC (.bl true)) (aCons (eC (.bl false)) (aCons (eC (.int 0)) (aCons (eC (.int 7)) (aCons (eUn gNeg (eC (.int 1))) (aCons (eOp gPow (eC (.int 10)) (eC (.int 39))) (aCons (eC (.str "")) (aCons (eC (.str "end a")) (aCons (eApp gLstD (aNil)) (aCons (eApp gLstD (aCons (eVar 2) (aNil))) (aCons (eC (.dct [] [])) (aCons (eDisp [.inl 0] (aCons (eVar 2) (aNil))) (aCons (eApp gTupD (aNil)) (aNil))))))))))))))))) (gSet 4) (W03.L4_law))
 (sSeq (sFor (iSrc (eApp gLstD (aCons (eC (.int 201)) (aCons (eC (.int 202)) (aCons (eC (.int 300)) (aCons (eC (.int 1000)) (aNil))))))) (gSet 5) (W03.L3_law))
 (sSeq (sAsg (gSet 6) (eApp gLstD (aCons (eC .non) (aCons (eC (.bl true)) (aCons (eC (.int 7)) (aCons (eC (.str "end a")) (aCons (eApp gLstD (aCons (eVar 2) (aNil))) (aCons (eApp gList (aCons (eVar 2) (aNil))) (aCons (eC (.dct [] [])) (aCons (eApp gTupD (aNil)) (aCons (eApp gTupD (aCons (eVar 2) (aNil))) (aCons (eOp gAddB (eVar 2) (eApp gTupD (aCons (eC (.int 0)) (aNil)))) (aCons (eSl (eVar 2) oNone (oSome (eC (.int 1)))) (aCons (eCallF 1 W03.F__law_deep (aCons (eC (.int 18)) (aNil))) (aNil)))))))))))))))
 (sSeq (sAsg (gSet 6) (eOp gAddB (eVar 6) (eApp gLstD (aCons (eApp gTupD (aCons (eC (.str "go")) (aCons (eOp gPow (eC (.int 10)) (eC (.int 39))) (aNil)))) (aCons (eApp gTupD (aCons (eC (.str "go")) (aCons (eOp gPow (eC (.int 10)) (eC (.int 6))) (aNil)))) (aCons (eApp gTupD (aCons (eC (.str "end")) (aCons (eC (.str "u")) (aNil)))) (aNil)))))))
 (sSeq (sFor (iSrc (eVar 6)) (gSet 4) (W03.L2_law))
 (sSeq (sFor (iSrc (eApp gLstD (aCons (eC (.int 1)) (aCons (eC (.int 2)) (aCons (eOp gAddB (eC (.int 1)) (eCallF 2 WS.F_draw (aCons (eVar 1) (aCons (eC (.int 200)) (aNil))))) (aCons (eC (.int 199)) (aCons (eC (.int 200)) (aNil)))))))) (gSet 5) (W03.L1_law))
 (sSeq (sRet (eC (.bl true)))
 (sNil))))))))))
def F_law : Fn := runS 10 body_law
end
end W03
namespace W03
open PySem PySem.Spec PyProof.Rows L2 WS
def topS (i : Nat) : Stmt := PySem.Challenge.pw_weavesafe_k03_rows_that_are_no_program.main.body.getD i (.Pass ⟨0, 0, 0, 0⟩)
structure Fx (P : Program) (w : World) (K : PySem.W.Frag) (mg : Str → Option Value) : Prop where
  f_is_whole : Df K mg "is_whole" (topS 17)
  f_is_number : Df K mg "is_number" (topS 18)
  f_is_register : Df K mg "is_register" (topS 19)
  f_is_part : Df K mg "is_part" (topS 20)
  f_is_row : Df K mg "is_row" (topS 21)
  f_jump_of : Df K mg "jump_of" (topS 22)
  f_is_row_of : Df K mg "is_row_of" (topS 23)
  f_ends_well : Df K mg "ends_well" (topS 24)
  f__law_deck : Df K mg "_law_deck" (topS 27)
  f__law_draw : Df K mg "_law_draw" (topS 28)
  f__law_kinds : Df K mg "_law_kinds" (topS 30)
  f__law_number : Df K mg "_law_number" (topS 31)
  f__law_part : Df K mg "_law_part" (topS 32)
  f__law_row : Df K mg "_law_row" (topS 33)
  f__law_classes : Df K mg "_law_classes" (topS 36)
  f__law_made : Df K mg "_law_made" (topS 37)
  f__law_refused : Df K mg "_law_refused" (topS 38)
  f__law_deep : Df K mg "_law_deep" (topS 39)
  f_law : Df K mg "law" (topS 40)
  g_TOP : Gk K mg "TOP" W01.g_TOP
  g_REGISTERS : Gk K mg "REGISTERS" W01.g_REGISTERS
  g_GIVEN : Gk K mg "GIVEN" W01.g_GIVEN
  g_REGISTER : Gk K mg "REGISTER" W01.g_REGISTER
  t_PARTS : Gt K w mg "PARTS" W01.t_PARTS
  g_JUMP : Gk K mg "JUMP" W02.g_JUMP
  g_LAST : Gk K mg "LAST" W02.g_LAST
  g_MOST_ROWS : Gk K mg "MOST_ROWS" W02.g_MOST_ROWS
  kc : KCs K ["Program", "WeaveError", "NoProgram", "NoText", "NoGear", "NoPlan", "NoRow", "TooMany"]
  l_rows : FTab K "rows" ["Program"]
  l_row : FTab K "row" ["NoProgram", "NoText"]
  q_IndexError : ClQ0 K mg "IndexError" (some "IndexError") W02.q_IndexError
  q_ValueError : ClQ0 K mg "ValueError" (some "ValueError") W02.q_ValueError
  q_WeaveError : ClQ0 K mg "WeaveError" none W02.q_WeaveError
  q_TooMany : ClQ0 K mg "TooMany" none W02.q_TooMany
  q_NoRow : ClQ0 K mg "NoRow" none W02.q_NoRow
  q_NoPlan : ClQ0 K mg "NoPlan" none W02.q_NoPlan
  q_NoGear : ClQ0 K mg "NoGear" none W02.q_NoGear
  q_NoText : ClQ0 K mg "NoText" none W02.q_NoText
  q_NoProgram : ClQ0 K mg "NoProgram" none W02.q_NoProgram
  y_NoProgram : ClY K mg "NoProgram" W02.y_NoProgram
  i_Program : DfI K mg "Program" "Program.__init__" (memOf (topS 25) 0) W02.fs_Program
  e_NoProgram : ExC0 K mg "NoProgram" "NoProgram.__init__" "row" (memOf (topS 3) 0)
  w_WeaveError : WeB K mg "WeaveError"
  b_all : mg "all" = none
  b_bool : mg "bool" = none
  b_enumerate : mg "enumerate" = none
  b_int : mg "int" = none
  b_isinstance : mg "isinstance" = none
  b_len : mg "len" = none
  b_list : mg "list" = none
  b_range : mg "range" = none
  b_repr : mg "repr" = none
  b_sorted : mg "sorted" = none
  b_str : mg "str" = none
  b_sum : mg "sum" = none
  b_tuple : mg "tuple" = none
  b_zip : mg "zip" = none
section
variable {P : Program} {w : World} {K : PySem.W.Frag} {mg : Str → Option Value} {base : Heap}
abbrev sDraw : Stmt := topS 28
theorem scDraw : FnScope ["_law_deck_here", "_law_most", "_law_at", "_law_cells", "_law_seed", "_law_number_here"] ["_law_deck_here", "_law_most"] (defScope sDraw) := ⟨rfl, rfl, rfl, by decide +kernel, rfl, by decide +kernel, by decide +kernel⟩
theorem ok_draw {f : Addr} {fd : FuncData} (Fu : Fun K "_law_draw" "_law_draw" sDraw f fd) : FnG P w K mg base CX0 1 f fd ["_law_deck_here", "_law_most"] (spS K 2 F_draw) := by
  refine fnG0 Fu scDraw (fun vs H Q E h => h.1) fun cdv A outer s H vs Q E hg hr h => ?_
  obtain ⟨hl, S, F, ds, dk, d, dk', R, rv, e, q⟩ := h
  have hu := hu_of hr
  have nd := scDraw.nd
  refine ⟨_, pss_cons (ps_dput hu (pv 0) pe_str (pe_op op_add (pe_dget hu (pv 0) pe_str (fun _ _ => rfl)) pe_int) rfl)
    (pss_cons (ps_set (i := 2) nd rfl (.inl rfl) (pe_dget hu (pv 0) pe_str (fun _ _ => rfl)))
    (pss_cons (ps_set (i := 3) nd rfl (.inl rfl) (pe_dget hu (pv 0) pe_str (fun _ _ => rfl)))
    (pss_cons (ps_set (i := 4) nd rfl (.inl rfl) (pe_op op_add (pe_dget hu (pv 0) pe_str (fun _ _ => rfl)) (pv 2)))
    (pss_cons (ps_if (pt_cmpR (op_neD hr.units) (pv 3) (pe_lst pa_nil) (nomark _))
      (pss_cons (ps_set (i := 4) nd rfl (.inl rfl) (pe_bm PySem.F.plainAttrs_list PySem.F.slot_list_pop PySem.F.type_list_pop mt_popAt (pv 3) (pa_cons pe_int pa_nil)))
        (pss_one (ps_if (pt_cmpR op_ge (pv 4) (pe_op op_pow pe_int pe_int) (nomark _))
          (pss_cons (ps_expr (pe_bm PySem.F.plainAttrs_list PySem.F.slot_list_insert PySem.F.type_list_insert mt_insert (pv 3) (pa_cons pe_int (pa_cons (pe_op op_fdiv (pv 4) (pv 1)) pa_nil))))
            (pss_one (ps_ret (pe_op op_mod (pv 4) (pv 1))))) pss_nil))) pss_nil)
    (pss_cons (ps_set (i := 5) nd rfl (.inl rfl) (pe_op op_mod (pe_op op_add (pe_op op_add (pe_op op_mul (pe_op op_mod (pv 4) pe_int) pe_int) (pe_op op_mul (pe_op op_mul pe_int (pv 2)) (pv 2))) pe_int) pe_int))
    (pss_cons (ps_set (i := 5) nd rfl (.inl rfl) (pe_op op_mod (pe_op op_mul (pv 5) (pv 5)) pe_int))
    (pss_one (ps_ret (pe_op op_mod (pe_op op_fdiv (pe_op op_mod (pe_op op_mul (pv 5) (pe_op op_add (pv 5) pe_int)) pe_int) pe_int) (pv 1)))))))))), ?_⟩
  unfold F_draw at e
  split at e
  case h_2 => cases e
  rename_i m cells at_ sum
  split at e
  case isFalse => cases e
  rename_i hcond
  obtain ⟨hm0, hm1, ha0, ha1, hlen⟩ := hcond
  obtain ⟨v1, v2, rfl, r1, r2⟩ := two_of rv
  cases r2
  cases r1
  rename_i a hda
  obtain ⟨a2, c, e1, ha, hc, e4, e5, e6, e7, _, _⟩ := id R.dka
  rw [hda] at e1; cases e1
  have nca : c ≠ a := fun z => by rw [z, ha] at hc; cases hc
  -- deck['at'] = deck['at'] + 1
  refine ⟨.ref a, rfl, a, .int at_, rfl, dg_at ha, at_, 1, rfl, rfl, .ref a, rfl, a, _, rfl, dp_at ha, ?_⟩
  have hA : (upd H a (.dK [(kCells, .ref c), (kAt, .int (at_ + 1)), (kSum, .int sum)])) a = some (.dK [(kCells, .ref c), (kAt, .int (at_ + 1)), (kSum, .int sum)]) := upd_same
  have hC : (upd H a (.dK [(kCells, .ref c), (kAt, .int (at_ + 1)), (kSum, .int sum)])) c = some (.lst (cells.map V.int)) := by rw [upd_ne nca]; exact hc
  have off : ∀ b o, H b = some o → b ≠ a → b ≠ c → (upd H a (.dK [(kCells, .ref c), (kAt, .int (at_ + 1)), (kSum, .int sum)])) b = some o := fun b o e z _ => by rw [upd_ne z]; exact e
  generalize (upd H a (.dK [(kCells, .ref c), (kAt, .int (at_ + 1)), (kSum, .int sum)])) = H1 at hA hC off ⊢
  -- at, cells, seed
  refine ⟨.ref a, rfl, a, .int (at_ + 1), rfl, dg_at hA, ?_⟩
  refine ⟨.ref a, rfl, a, .ref c, rfl, dg_cells hA, ?_⟩
  refine ⟨.ref a, rfl, a, .int sum, rfl, dg_sum hA, .int (at_ + 1), rfl, sum, at_ + 1, rfl, rfl, ?_⟩
  -- if cells != []
  have back : ∀ (cells' : List Int) (H' : Hp), (∀ b o, H b = some o → b ≠ a → b ≠ c → H' b = some o) → H' a = some (.dK [(kCells, .ref c), (kAt, .int (at_ + 1)), (kSum, .int sum)]) → H' c = some (.lst (cells'.map V.int)) → ∀ i : Int, some (D.int i, some (cells', at_ + 1, sum)) = some (d, dk') → Q (.int i) H' := fun cells' H' o1 o2 o3 i ee => by
    cases ee
    exact q _ H' S (Le.refl S) (R.turnDk hda ha hc o1 o2 o3) (.int i)
  refine ⟨.ref c, rfl, Nat.zero_le _, fun p hp => ?_⟩
  have npc : p ≠ c := fun z => by rw [z, hC] at hp; cases hp
  have npa : p ≠ a := fun z => by rw [z, hA] at hp; cases hp
  have hC2 : (upd H1 p (.lst [])) c = some (.lst (cells.map V.int)) := by rw [upd_ne npc.symm]; exact hC
  have hA2 : (upd H1 p (.lst [])) a = some (.dK [(kCells, .ref c), (kAt, .int (at_ + 1)), (kSum, .int sum)]) := by rw [upd_ne npa.symm]; exact hA
  have hp0 : H p = none := by
    cases z : H p with
    | none => rfl
    | some o => rw [off p o z npa npc] at hp; cases hp
  have off2 : ∀ b o, H b = some o → b ≠ a → b ≠ c → (upd H1 p (.lst [])) b = some o := fun b o e z1 z2 => by rw [upd_ne (ne_of_none e hp0)]; exact off b o e z1 z2
  refine ⟨_, _, cells_dp (.inl (.inl hC2)), .lst (.inl (.inl upd_same)) .nil, ints_shaped cells, by decide, _, rfl, ?_⟩
  rw [ints_eqv]
  generalize (upd H1 p (.lst [])) = H2 at hC2 hA2 off2 ⊢
  clear hC hA off hp npc npa
  -- what is left behind the test
  have rest : ∀ (seed : Int) (cells' : List Int) (H' : Hp), (∀ b o, H b = some o → b ≠ a → b ≠ c → H' b = some o) → H' a = some (.dK [(kCells, .ref c), (kAt, .int (at_ + 1)), (kSum, .int sum)]) → H' c = some (.lst (cells'.map V.int)) →
      some (D.int (figure seed (at_ + 1) m), some (cells', at_ + 1, sum)) = some (d, dk') → Q (.int (figure seed (at_ + 1) m)) H' := fun seed cells' H' o1 o2 o3 ee => back cells' H' o1 o2 o3 _ ee
  cases cells with
  | nil =>
    refine iteF ?_
    refine ⟨.int (sum + (at_ + 1)), rfl, _, 2147483647, rfl, rfl, (by show (0 : Int) < 2147483647; decide), _, 48271, rfl, rfl, .inr ⟨by decide, by decide⟩, .int (at_ + 1), rfl, 69621, at_ + 1, rfl, rfl, .inl ⟨by decide, by decide⟩, .int (at_ + 1), rfl, _, at_ + 1, rfl, rfl, .inr ⟨by omega, by omega⟩, _, _, rfl, rfl, _, 7919, rfl, rfl, _, 2147483629, rfl, rfl, (by show (0 : Int) < 2147483629; decide), ?_⟩
    have b1 := Int.emod_lt_of_pos (sum + (at_ + 1) % 2147483647 * 48271 + 69621 * (at_ + 1) * (at_ + 1) + 7919) (show (0 : Int) < 2147483629 by decide)
    have b2 := Int.emod_nonneg (sum + (at_ + 1) % 2147483647 * 48271 + 69621 * (at_ + 1) * (at_ + 1) + 7919) (show (2147483629 : Int) ≠ 0 by decide)
    refine ⟨_, rfl, _, rfl, _, _, rfl, rfl, .inl ⟨by omega, by omega⟩, _, 2147483587, rfl, rfl, (by show (0 : Int) < 2147483587; decide), ?_⟩
    have b3 := Int.emod_lt_of_pos ((sum + (at_ + 1) % 2147483647 * 48271 + 69621 * (at_ + 1) * (at_ + 1) + 7919) % 2147483629 * ((sum + (at_ + 1) % 2147483647 * 48271 + 69621 * (at_ + 1) * (at_ + 1) + 7919) % 2147483629)) (show (0 : Int) < 2147483587 by decide)
    have b4 := Int.emod_nonneg ((sum + (at_ + 1) % 2147483647 * 48271 + 69621 * (at_ + 1) * (at_ + 1) + 7919) % 2147483629 * ((sum + (at_ + 1) % 2147483647 * 48271 + 69621 * (at_ + 1) * (at_ + 1) + 7919) % 2147483629)) (show (2147483587 : Int) ≠ 0 by decide)
    refine ⟨_, rfl, _, rfl, _, 39373, rfl, rfl, _, _, rfl, rfl, .inl ⟨by omega, by omega⟩, _, 2147483563, rfl, rfl, (by show (0 : Int) < 2147483563; decide), _, 64, rfl, rfl, ⟨by decide, by decide⟩, .int m, rfl, _, m, rfl, rfl, hm0, ?_⟩
    exact rest (sum + (at_ + 1)) [] H2 off2 hA2 hC2 e
  | cons x r =>
    replace e : (if (10 : Int) ^ 18 ≤ x then some (D.int (x % m), (some (x / m :: r, at_ + 1, sum) : Dk)) else some (D.int (figure x (at_ + 1) m), some (r, at_ + 1, sum))) = some (d, dk') := e
    refine iteT ?_
    refine ⟨.ref c, rfl, .inl ⟨rfl, _, .inl (.inl hC2)⟩, c, (x :: r).map V.int, 0, 0, .int x, rfl, rfl, hC2, by decide, by decide, ?_, rfl, ?_⟩
    · exact seq0 (by simp)
    have hC3 : (upd H2 c (.lst (((x :: r).map V.int).eraseIdx 0))) c = some (.lst (r.map V.int)) := upd_same
    have hA3 : (upd H2 c (.lst (((x :: r).map V.int).eraseIdx 0))) a = some (.dK [(kCells, .ref c), (kAt, .int (at_ + 1)), (kSum, .int sum)]) := by rw [upd_ne nca.symm]; exact hA2
    have off3 : ∀ b o, H b = some o → b ≠ a → b ≠ c → (upd H2 c (.lst (((x :: r).map V.int).eraseIdx 0))) b = some o := fun b o e z1 z2 => by rw [upd_ne z2]; exact off2 b o e z1 z2
    generalize (upd H2 c (.lst (((x :: r).map V.int).eraseIdx 0))) = H3 at hC3 hA3 off3 ⊢
    refine ⟨.int x, rfl, 10, 18, rfl, rfl, ⟨by decide, by decide, by decide⟩, x, _, rfl, rfl, _, rfl, ite2 (fun hx => ?_) (fun hx => ?_)⟩
    · have hx' : (10 : Int) ^ 18 ≤ x := of_decide_eq_true hx
      rw [if_pos hx'] at e
      refine ⟨.ref c, rfl, .inl ⟨rfl, _, .inl (.inl hC3)⟩, .int x, rfl, .int m, rfl, x, m, rfl, rfl, ⟨hm0, hm1⟩, c, _, 0, _, rfl, rfl, hC3, ?_, by decide, by decide, ?_⟩
      · rw [List.length_map]
        simp only [List.length_cons] at hlen
        exact Nat.lt_of_lt_of_le (show r.length < 100000 by omega) (by rw [sizeLine_eq]; decide)
      · refine ⟨.int x, rfl, .int m, rfl, x, m, rfl, rfl, hm0, ?_⟩
        exact back (x / m :: r) _ (fun b o e z1 z2 => by rw [upd_ne z2]; exact off3 b o e z1 z2) (by rw [upd_ne nca.symm]; exact hA3) upd_same _ e
    · have hx' : ¬ (10 : Int) ^ 18 ≤ x := fun z => hx (decide_eq_true z)
      rw [if_neg hx'] at e
      refine ⟨.int (x), rfl, _, 2147483647, rfl, rfl, (by show (0 : Int) < 2147483647; decide), _, 48271, rfl, rfl, .inr ⟨by decide, by decide⟩, .int (at_ + 1), rfl, 69621, at_ + 1, rfl, rfl, .inl ⟨by decide, by decide⟩, .int (at_ + 1), rfl, _, at_ + 1, rfl, rfl, .inr ⟨by omega, by omega⟩, _, _, rfl, rfl, _, 7919, rfl, rfl, _, 2147483629, rfl, rfl, (by show (0 : Int) < 2147483629; decide), ?_⟩
      have b1 := Int.emod_lt_of_pos (x % 2147483647 * 48271 + 69621 * (at_ + 1) * (at_ + 1) + 7919) (show (0 : Int) < 2147483629 by decide)
      have b2 := Int.emod_nonneg (x % 2147483647 * 48271 + 69621 * (at_ + 1) * (at_ + 1) + 7919) (show (2147483629 : Int) ≠ 0 by decide)
      refine ⟨_, rfl, _, rfl, _, _, rfl, rfl, .inl ⟨by omega, by omega⟩, _, 2147483587, rfl, rfl, (by show (0 : Int) < 2147483587; decide), ?_⟩
      have b3 := Int.emod_lt_of_pos ((x % 2147483647 * 48271 + 69621 * (at_ + 1) * (at_ + 1) + 7919) % 2147483629 * ((x % 2147483647 * 48271 + 69621 * (at_ + 1) * (at_ + 1) + 7919) % 2147483629)) (show (0 : Int) < 2147483587 by decide)
      have b4 := Int.emod_nonneg ((x % 2147483647 * 48271 + 69621 * (at_ + 1) * (at_ + 1) + 7919) % 2147483629 * ((x % 2147483647 * 48271 + 69621 * (at_ + 1) * (at_ + 1) + 7919) % 2147483629)) (show (2147483587 : Int) ≠ 0 by decide)
      refine ⟨_, rfl, _, rfl, _, 39373, rfl, rfl, _, _, rfl, rfl, .inl ⟨by omega, by omega⟩, _, 2147483563, rfl, rfl, (by show (0 : Int) < 2147483563; decide), _, 64, rfl, rfl, ⟨by decide, by decide⟩, .int m, rfl, _, m, rfl, rfl, hm0, ?_⟩
      exact rest (x) r H3 off3 hA3 hC3 e

abbrev sDeck : Stmt := topS 27
theorem scDeck : FnScope ["_law_script", "_law_cells"] ["_law_script"] (defScope sDeck) := ⟨rfl, rfl, rfl, by decide +kernel, rfl, by decide +kernel, by decide +kernel⟩
theorem ok_deck {f : Addr} {fd : FuncData} (Fu : Fun K "_law_deck" "_law_deck" sDeck f fd) (mList : mg "list" = none) (mSum : mg "sum" = none) (mLen : mg "len" = none) : FnG P w K mg base CX0 1 f fd ["_law_script"] (spS K 1 F_deck) := by
  refine fnG0 Fu scDeck (fun vs H Q E h => h.1) fun cdv A outer s H vs Q E hg hr h => ?_
  obtain ⟨hl, S, F, ds, dk, d, dk', R, rv, e, q⟩ := h
  have hu := hu_of hr
  have nd := scDeck.nd
  refine ⟨_, pss_cons (ps_set (i := 1) nd rfl (.inl rfl) (pe_callTy call_list_of (by rfl) mList (by decide +kernel) (pa_cons (pe_slice sl_list (pv 0) po_none (po_some pe_int)) pa_nil)))
    (pss_one (ps_ret (pe_disp (pps_cons pe_str (pv 1) (pps_cons pe_str pe_int (pps_cons pe_str (pe_op op_add (pe_op op_mod (pe_callB (cr_sum rfl) (by rfl) mSum (by decide +kernel) (pa_cons (pv 1) pa_nil)) pe_int) (pe_op op_mul pe_int (pe_callB call_len (by rfl) mLen (by decide +kernel) (pa_cons (pv 1) pa_nil)))) pps_nil))) (by rfl) (by rfl) (fun z => by cases z) (by decide)))), ?_⟩
  unfold F_deck at e
  split at e
  case h_2 => cases e
  rename_i xs
  cases hi : intsOf xs with
  | none => rw [hi] at e; cases e
  | some ns =>
    rw [hi] at e
    simp only [Option.map_some] at e
    cases e
    obtain ⟨v, rfl, rv1⟩ := one_of rv
    cases rv1 with
    | rdl hs hr1 =>
      rename_i a vs
      have hvs := intsOf_vs hr1 hi
      subst hvs
      have hS : SqL K H a (ns.map V.int) := R.sh.sqL hs
      -- list(script[:63])
      refine ⟨.ref a, rfl, 63, rfl, a, _, rfl, hS, fun p1 n1 => ?_⟩
      refine ⟨p1, _, rfl, .inl (.inl (.inl upd_same)), fun p2 n2 => ?_⟩
      rw [cut63] at n2 ⊢
      have s1 : Sub H (upd H p1 (.lst ((ns.take 63).map V.int))) := Sub.new n1
      generalize (upd H p1 (.lst ((ns.take 63).map V.int))) = H1 at n2 s1 ⊢
      have s2 : Sub H1 (upd H1 p2 (.lst ((ns.take 63).map V.int))) := Sub.new n2
      have h2 : (upd H1 p2 (.lst ((ns.take 63).map V.int))) p2 = some (.lst ((ns.take 63).map V.int)) := upd_same
      generalize (upd H1 p2 (.lst ((ns.take 63).map V.int))) = H2 at h2 s2 ⊢
      -- the dict
      intro p3 n3
      have n32 : p2 ≠ p3 := ne_of_none h2 n3
      have h23 : (upd H2 p3 (.dK [])) p2 = some (.lst ((ns.take 63).map V.int)) := by rw [upd_ne n32]; exact h2
      refine ⟨.ref p2, rfl, .ref p2, rfl, p2, ns.take 63, rfl, .inl (.inl h23), (ns.take 63).sum, 2147483629, rfl, rfl, (by show (0 : Int) < 2147483629; decide), .ref p2, rfl, .ref p2, _, rfl, .inl ⟨_, .inl (.inl h23), rfl⟩, 17, _, rfl, rfl, .inl ⟨by decide, by decide⟩, _, _, rfl, rfl, upd_same, [(kCells, .ref p2), (kAt, .int 0), (kSum, .int ((ns.take 63).sum % 2147483629 + 17 * (((ns.take 63).map V.int).length : Int)))], rfl, (by show 3 ≤ 15; decide), ?_⟩
      rw [dk_merge, List.length_map]
      have nH3 : H p3 = none := (s1.trans s2).none n3
      refine q _ _ ⟨S.hp, some p3⟩ ⟨Sub.refl _, fun a z => ?_⟩ (R.newDk (c := p2) (fun b o z => ?_) nH3 (s1.none n2) upd_same ?_) (.deck rfl)
      · have := R.dka
        rw [show S.da = none from this] at z; cases z
      · rw [upd_ne (ne_of_none z nH3), upd_ne (ne_of_none z nH3)]
        exact s2 _ _ (s1 _ _ z)
      · rw [upd_ne n32]; exact h23
theorem ok__law_draw (C : Fx P w K mg) : Cw P w K mg base 1 "_law_draw" 2 F_draw := by
  obtain ⟨f, fd, Fu, m⟩ := C.f__law_draw
  exact ⟨f, fd, _, ok_draw Fu, m, Fu.kp, Fu.binds (fun _ _ _ _ _ _ us hl => match us, hl with | [_, _], _ => rfl)⟩
theorem ok__law_deck (C : Fx P w K mg) : Cw P w K mg base 1 "_law_deck" 1 F_deck := by
  obtain ⟨f, fd, Fu, m⟩ := C.f__law_deck
  exact ⟨f, fd, _, ok_deck Fu C.b_list C.b_sum C.b_len, m, Fu.kp, Fu.binds (fun _ _ _ _ _ _ us hl => match us, hl with | [_], _ => rfl)⟩

abbrev s_NoProgram : Stmt := memOf (topS 3) 0
theorem sc_NoProgram : FnScope ["self", "row"] ["self", "row"] (defScope s_NoProgram) := ⟨rfl, rfl, rfl, by decide +kernel, rfl, by decide +kernel, by decide +kernel⟩
theorem ex_NoProgram (C : Fx P w K mg) : Exi P w K mg base 1 "NoProgram" "row" okI := by
 obtain ⟨Wc, hm, hG, hr, vV⟩ := C.w_WeaveError.ex
 exact exi_mk C.e_NoProgram sc_NoProgram rfl (fun _ _ _ _ _ _ us hl => match us, hl with | [_, _], _ => rfl) (fun f cdv A outer s H E rm => ⟨_, txt_ok (by decide), pss_cons (ps_expr (pe_weinit (gl_of (by kernel_rfl!)) hm hG hr vV (pa_cons (pe_var (i := 0) rfl (by first | exact Or.inl (by kernel_rfl!) | exact Or.inr (Or.inl (by kernel_rfl!)) | exact Or.inr (Or.inr (by kernel_rfl!)))) (pa_cons (pe_txt' (gl_of (by kernel_rfl!)) C.b_str rfl (by first | exact Or.inl (by kernel_rfl!) | exact Or.inr (Or.inl (by kernel_rfl!)) | exact Or.inr (Or.inr (by kernel_rfl!)))) pa_nil)) (by decide)) (by kernel_rfl!)) (pss_cons (ps_ost (pe_var (i := 0) rfl (by first | exact Or.inl (by kernel_rfl!) | exact Or.inr (Or.inl (by kernel_rfl!)) | exact Or.inr (Or.inr (by kernel_rfl!)))) (pe_var (i := 1) rfl (by first | exact Or.inl (by kernel_rfl!) | exact Or.inr (Or.inl (by kernel_rfl!)) | exact Or.inr (Or.inr (by kernel_rfl!))))) pss_nil)⟩)
abbrev s_is_whole : Stmt := topS 17
theorem sc_is_whole : FnScope ["thing"] ["thing"] (defScope s_is_whole) := ⟨rfl, rfl, rfl, by decide +kernel, rfl, by decide +kernel, by decide +kernel⟩
theorem ok_is_whole (C : Fx P w K mg) : Cw P w K mg base 1 "is_whole" 1 W01.F_is_whole :=
 cl_mk W01.body_is_whole 1 1 C.f_is_whole sc_is_whole rfl rfl (by decide) (fun _ _ _ _ _ _ us hl => match us, hl with | [_], _ => rfl) (fun f cdv A outer s H E hgu hr => by
 have hu64 := hr.units
 have hu1 := hu_of hr
 have hu100 := hu100_of hr
 have hu65 := hu65_of hr
 have nd := sc_is_whole.nd
 exact (s_cons (s_ret (d_and (d_callB x_isi (gl_of (by kernel_rfl!)) C.b_isinstance (by decide +kernel) (a_cons (d_var (i := 0) rfl (by first | exact Or.inl (by kernel_rfl!) | exact Or.inr (Or.inl (by kernel_rfl!)) | exact Or.inr (Or.inr (by kernel_rfl!)))) (a_cons (d_type (gl_of (by kernel_rfl!)) C.b_int (by decide +kernel)) a_nil))) (d_one (d_not (d_callB x_isi (gl_of (by kernel_rfl!)) C.b_isinstance (by decide +kernel) (a_cons (d_var (i := 0) rfl (by first | exact Or.inl (by kernel_rfl!) | exact Or.inr (Or.inl (by kernel_rfl!)) | exact Or.inr (Or.inr (by kernel_rfl!)))) (a_cons (d_type (gl_of (by kernel_rfl!)) C.b_bool (by decide +kernel)) a_nil)))))))
 s_nil))
abbrev s_is_number : Stmt := topS 18
theorem sc_is_number : FnScope ["thing"] ["thing"] (defScope s_is_number) := ⟨rfl, rfl, rfl, by decide +kernel, rfl, by decide +kernel, by decide +kernel⟩
theorem ok_is_number (C : Fx P w K mg) : Cw P w K mg base 2 "is_number" 1 W01.F_is_number :=
 cl_mk W01.body_is_number 1 1 C.f_is_number sc_is_number rfl rfl (by decide) (fun _ _ _ _ _ _ us hl => match us, hl with | [_], _ => rfl) (fun f cdv A outer s H E hgu hr => by
 have hu64 := hr.units
 have hu1 := hu_of hr
 have hu100 := hu100_of hr
 have hu65 := hu65_of hr
 have nd := sc_is_number.nd
 exact (s_cons (s_ret (d_and (d_callC (ok_is_whole C) hgu (hr.mono (by decide)) (gl_of (by kernel_rfl!)) (a_cons (d_var (i := 0) rfl (by first | exact Or.inl (by kernel_rfl!) | exact Or.inr (Or.inl (by kernel_rfl!)) | exact Or.inr (Or.inr (by kernel_rfl!)))) a_nil) (by decide) (by kernel_rfl!) (by kernel_rfl!)) (d_one (d_chain x_leE x_lt d_int (d_var (i := 0) rfl (by first | exact Or.inl (by kernel_rfl!) | exact Or.inr (Or.inl (by kernel_rfl!)) | exact Or.inr (Or.inr (by kernel_rfl!)))) (d_gk C.g_TOP (gl_of (by kernel_rfl!)) (by decide))))))
 s_nil))
abbrev s_is_register : Stmt := topS 19
theorem sc_is_register : FnScope ["thing"] ["thing"] (defScope s_is_register) := ⟨rfl, rfl, rfl, by decide +kernel, rfl, by decide +kernel, by decide +kernel⟩
theorem ok_is_register (C : Fx P w K mg) : Cw P w K mg base 1 "is_register" 1 W01.F_is_register :=
 cl_mk W01.body_is_register 1 1 C.f_is_register sc_is_register rfl rfl (by decide) (fun _ _ _ _ _ _ us hl => match us, hl with | [_], _ => rfl) (fun f cdv A outer s H E hgu hr => by
 have hu64 := hr.units
 have hu1 := hu_of hr
 have hu100 := hu100_of hr
 have hu65 := hu65_of hr
 have nd := sc_is_register.nd
 exact (s_cons (s_ret (d_and (d_callB x_isi (gl_of (by kernel_rfl!)) C.b_isinstance (by decide +kernel) (a_cons (d_var (i := 0) rfl (by first | exact Or.inl (by kernel_rfl!) | exact Or.inr (Or.inl (by kernel_rfl!)) | exact Or.inr (Or.inr (by kernel_rfl!)))) (a_cons (d_type (gl_of (by kernel_rfl!)) C.b_str (by decide +kernel)) a_nil))) (d_and (d_cmp (x_eqE hu64) (d_callB x_len (gl_of (by kernel_rfl!)) C.b_len (by decide +kernel) (a_cons (d_var (i := 0) rfl (by first | exact Or.inl (by kernel_rfl!) | exact Or.inr (Or.inl (by kernel_rfl!)) | exact Or.inr (Or.inr (by kernel_rfl!)))) a_nil)) d_int (nomark _)) (d_one (d_cmp (x_in hu65) (d_var (i := 0) rfl (by first | exact Or.inl (by kernel_rfl!) | exact Or.inr (Or.inl (by kernel_rfl!)) | exact Or.inr (Or.inr (by kernel_rfl!)))) (d_gk C.g_REGISTERS (gl_of (by kernel_rfl!)) (by decide)) (by kernel_rfl!))))))
 s_nil))
abbrev s_is_part : Stmt := topS 20
theorem sc_is_part : FnScope ["kind", "thing"] ["kind", "thing"] (defScope s_is_part) := ⟨rfl, rfl, rfl, by decide +kernel, rfl, by decide +kernel, by decide +kernel⟩
theorem ok_is_part (C : Fx P w K mg) : Cw P w K mg base 3 "is_part" 2 W01.F_is_part :=
 cl_mk W01.body_is_part 2 2 C.f_is_part sc_is_part rfl rfl (by decide) (fun _ _ _ _ _ _ us hl => match us, hl with | [_, _], _ => rfl) (fun f cdv A outer s H E hgu hr => by
 have hu64 := hr.units
 have hu1 := hu_of hr
 have hu100 := hu100_of hr
 have hu65 := hu65_of hr
 have nd := sc_is_part.nd
 exact (s_cons (s_if (q_cmp (x_eqE hu64) (d_var (i := 0) rfl (by first | exact Or.inl (by kernel_rfl!) | exact Or.inr (Or.inl (by kernel_rfl!)) | exact Or.inr (Or.inr (by kernel_rfl!)))) (d_gk C.g_REGISTER (gl_of (by kernel_rfl!)) (by decide)) (nomark _))
(s_cons (s_ret (d_callC (ok_is_register C) hgu (hr.mono (by decide)) (gl_of (by kernel_rfl!)) (a_cons (d_var (i := 1) rfl (by first | exact Or.inl (by kernel_rfl!) | exact Or.inr (Or.inl (by kernel_rfl!)) | exact Or.inr (Or.inr (by kernel_rfl!)))) a_nil) (by decide) (by kernel_rfl!) (by kernel_rfl!)))
 s_nil)
s_nil)
 (s_cons (s_ret (d_or (d_callC (ok_is_number C) hgu (hr.mono (by decide)) (gl_of (by kernel_rfl!)) (a_cons (d_var (i := 1) rfl (by first | exact Or.inl (by kernel_rfl!) | exact Or.inr (Or.inl (by kernel_rfl!)) | exact Or.inr (Or.inr (by kernel_rfl!)))) a_nil) (by decide) (by kernel_rfl!) (by kernel_rfl!)) (d_one (d_and (d_cmp (x_eqE hu64) (d_var (i := 0) rfl (by first | exact Or.inl (by kernel_rfl!) | exact Or.inr (Or.inl (by kernel_rfl!)) | exact Or.inr (Or.inr (by kernel_rfl!)))) (d_gk C.g_GIVEN (gl_of (by kernel_rfl!)) (by decide)) (nomark _)) (d_one (d_callC (ok_is_register C) hgu (hr.mono (by decide)) (gl_of (by kernel_rfl!)) (a_cons (d_var (i := 1) rfl (by first | exact Or.inl (by kernel_rfl!) | exact Or.inr (Or.inl (by kernel_rfl!)) | exact Or.inr (Or.inr (by kernel_rfl!)))) a_nil) (by decide) (by kernel_rfl!) (by kernel_rfl!)))))))
 s_nil)))
abbrev s_is_row : Stmt := topS 21
theorem sc_is_row : FnScope ["thing", "word", "parts", "kinds", "kind", "part"] ["thing"] (defScope s_is_row) := ⟨rfl, rfl, rfl, by decide +kernel, rfl, by decide +kernel, by decide +kernel⟩
theorem ok_is_row (C : Fx P w K mg) : Cw P w K mg base 4 "is_row" 1 W01.F_is_row :=
 cl_mk W01.body_is_row 1 6 C.f_is_row sc_is_row rfl rfl (by decide) (fun _ _ _ _ _ _ us hl => match us, hl with | [_], _ => rfl) (fun f cdv A outer s H E hgu hr => by
 have hu64 := hr.units
 have hu1 := hu_of hr
 have hu100 := hu100_of hr
 have hu65 := hu65_of hr
 have nd := sc_is_row.nd
 exact (s_cons (s_if (w_or (q_not (q_val (d_callB x_isi (gl_of (by kernel_rfl!)) C.b_isinstance (by decide +kernel) (a_cons (d_var (i := 0) rfl (by first | exact Or.inl (by kernel_rfl!) | exact Or.inr (Or.inl (by kernel_rfl!)) | exact Or.inr (Or.inr (by kernel_rfl!)))) (a_cons (d_type (gl_of (by kernel_rfl!)) C.b_tuple (by decide +kernel)) a_nil))))) (w_or (q_cmp (x_eqE hu64) (d_var (i := 0) rfl (by first | exact Or.inl (by kernel_rfl!) | exact Or.inr (Or.inl (by kernel_rfl!)) | exact Or.inr (Or.inr (by kernel_rfl!)))) (d_tup a_nil) (nomark _)) (w_or (q_not (q_val (d_callB x_isi (gl_of (by kernel_rfl!)) C.b_isinstance (by decide +kernel) (a_cons (d_ix x_ix (d_var (i := 0) rfl (by first | exact Or.inl (by kernel_rfl!) | exact Or.inr (Or.inl (by kernel_rfl!)) | exact Or.inr (Or.inr (by kernel_rfl!)))) d_int (fun _ _ => rfl)) (a_cons (d_type (gl_of (by kernel_rfl!)) C.b_str (by decide +kernel)) a_nil))))) (w_or1 (q_gtNotIn C.t_PARTS (gl_of (by kernel_rfl!)) (d_ix x_ix (d_var (i := 0) rfl (by first | exact Or.inl (by kernel_rfl!) | exact Or.inr (Or.inl (by kernel_rfl!)) | exact Or.inr (Or.inr (by kernel_rfl!)))) d_int (fun _ _ => rfl)) (by decide)))))).pt
(s_cons (s_ret d_bl)
 s_nil)
s_nil)
 (s_cons (s_asg (d_var (i := 0) rfl (by first | exact Or.inl (by kernel_rfl!) | exact Or.inr (Or.inl (by kernel_rfl!)) | exact Or.inr (Or.inr (by kernel_rfl!)))) (t_star rfl (t_name nd rfl (by first | exact Or.inl (by kernel_rfl!) | exact Or.inr (by kernel_rfl!))) (t_name nd rfl (by first | exact Or.inl (by kernel_rfl!) | exact Or.inr (by kernel_rfl!)))))
 (s_cons (s_asg (d_gt C.t_PARTS (gl_of (by kernel_rfl!)) (d_var (i := 1) rfl (by first | exact Or.inl (by kernel_rfl!) | exact Or.inr (Or.inl (by kernel_rfl!)) | exact Or.inr (Or.inr (by kernel_rfl!)))) (fun _ _ => rfl) (by decide)) (t_name nd rfl (by first | exact Or.inl (by kernel_rfl!) | exact Or.inr (by kernel_rfl!))))
 (s_cons (s_ret (d_and (d_cmp (x_eqE hu64) (d_callB x_len (gl_of (by kernel_rfl!)) C.b_len (by decide +kernel) (a_cons (d_var (i := 2) rfl (by first | exact Or.inl (by kernel_rfl!) | exact Or.inr (Or.inl (by kernel_rfl!)) | exact Or.inr (Or.inr (by kernel_rfl!)))) a_nil)) (d_callB x_len (gl_of (by kernel_rfl!)) C.b_len (by decide +kernel) (a_cons (d_var (i := 3) rfl (by first | exact Or.inl (by kernel_rfl!) | exact Or.inr (Or.inl (by kernel_rfl!)) | exact Or.inr (Or.inr (by kernel_rfl!)))) a_nil)) (nomark _)) (d_one (d_callB (x_all rfl) (gl_of (by kernel_rfl!)) C.b_all (by decide +kernel) (a_cons (d_comp (own := [("kind", 4), ("part", 5)]) (hc := rfl) (hN := nd) (hi := (i_zipS (gl_of (by kernel_rfl!)) C.b_zip (a_cons (d_var (i := 3) rfl (by first | exact Or.inl (by kernel_rfl!) | exact Or.inr (Or.inl (by kernel_rfl!)) | exact Or.inr (Or.inr (by kernel_rfl!)))) (a_cons (d_var (i := 2) rfl (by first | exact Or.inl (by kernel_rfl!) | exact Or.inr (Or.inl (by kernel_rfl!)) | exact Or.inr (Or.inr (by kernel_rfl!)))) a_nil)))) (ok := blkOk_by (by kernel_rfl!)) (hg := fun _ _ _ _ _ => (t_pair rfl (t_name nd rfl (by first | exact Or.inl (by kernel_rfl!) | exact Or.inr (by kernel_rfl!))) (t_name nd rfl (by first | exact Or.inl (by kernel_rfl!) | exact Or.inr (by kernel_rfl!))))) (ht := fun _ _ _ _ _ => q_nil) (he := fun _ _ _ _ _ => (d_callC (ok_is_part C) hgu (hr.mono (by decide)) (gl_of (by kernel_rfl!)) (a_cons (d_var (i := 4) rfl (by first | exact Or.inl (by kernel_rfl!) | exact Or.inr (Or.inl (by kernel_rfl!)) | exact Or.inr (Or.inr (by kernel_rfl!)))) (a_cons (d_var (i := 5) rfl (by first | exact Or.inl (by kernel_rfl!) | exact Or.inr (Or.inl (by kernel_rfl!)) | exact Or.inr (Or.inr (by kernel_rfl!)))) a_nil)) (by decide) (by kernel_rfl!) (by kernel_rfl!)))) a_nil)))))
 s_nil)))))
abbrev s_jump_of : Stmt := topS 22
theorem sc_jump_of : FnScope ["row"] ["row"] (defScope s_jump_of) := ⟨rfl, rfl, rfl, by decide +kernel, rfl, by decide +kernel, by decide +kernel⟩
theorem ok_jump_of (C : Fx P w K mg) : Cw P w K mg base 1 "jump_of" 1 W02.F_jump_of :=
 cl_mk W02.body_jump_of 1 1 C.f_jump_of sc_jump_of rfl rfl (by decide) (fun _ _ _ _ _ _ us hl => match us, hl with | [_], _ => rfl) (fun f cdv A outer s H E hgu hr => by
 have hu64 := hr.units
 have hu1 := hu_of hr
 have hu100 := hu100_of hr
 have hu65 := hu65_of hr
 have nd := sc_jump_of.nd
 exact (s_cons (s_if (q_cmp (x_in hu65) (d_gk C.g_JUMP (gl_of (by kernel_rfl!)) (by decide)) (d_gt C.t_PARTS (gl_of (by kernel_rfl!)) (d_ix x_ix (d_var (i := 0) rfl (by first | exact Or.inl (by kernel_rfl!) | exact Or.inr (Or.inl (by kernel_rfl!)) | exact Or.inr (Or.inr (by kernel_rfl!)))) d_int (fun _ _ => rfl)) (fun _ _ => rfl) (by decide)) (by kernel_rfl!))
(s_cons (s_ret (d_ix x_ix (d_var (i := 0) rfl (by first | exact Or.inl (by kernel_rfl!) | exact Or.inr (Or.inl (by kernel_rfl!)) | exact Or.inr (Or.inr (by kernel_rfl!)))) (d_un x_neg d_int) (fun _ _ => rfl)))
 s_nil)
s_nil)
 (s_cons (s_ret d_non)
 s_nil)))
abbrev s_is_row_of : Stmt := topS 23
theorem sc_is_row_of : FnScope ["many", "thing", "jump"] ["many", "thing"] (defScope s_is_row_of) := ⟨rfl, rfl, rfl, by decide +kernel, rfl, by decide +kernel, by decide +kernel⟩
theorem ok_is_row_of (C : Fx P w K mg) : Cw P w K mg base 5 "is_row_of" 2 W02.F_is_row_of :=
 cl_mk W02.body_is_row_of 2 3 C.f_is_row_of sc_is_row_of rfl rfl (by decide) (fun _ _ _ _ _ _ us hl => match us, hl with | [_, _], _ => rfl) (fun f cdv A outer s H E hgu hr => by
 have hu64 := hr.units
 have hu1 := hu_of hr
 have hu100 := hu100_of hr
 have hu65 := hu65_of hr
 have nd := sc_is_row_of.nd
 exact (s_cons (s_if (q_not (q_val (d_callC (ok_is_row C) hgu (hr.mono (by decide)) (gl_of (by kernel_rfl!)) (a_cons (d_var (i := 1) rfl (by first | exact Or.inl (by kernel_rfl!) | exact Or.inr (Or.inl (by kernel_rfl!)) | exact Or.inr (Or.inr (by kernel_rfl!)))) a_nil) (by decide) (by kernel_rfl!) (by kernel_rfl!))))
(s_cons (s_ret d_bl)
 s_nil)
s_nil)
 (s_cons (s_asg (d_callC (ok_jump_of C) hgu (hr.mono (by decide)) (gl_of (by kernel_rfl!)) (a_cons (d_var (i := 1) rfl (by first | exact Or.inl (by kernel_rfl!) | exact Or.inr (Or.inl (by kernel_rfl!)) | exact Or.inr (Or.inr (by kernel_rfl!)))) a_nil) (by decide) (by kernel_rfl!) (by kernel_rfl!)) (t_name nd rfl (by first | exact Or.inl (by kernel_rfl!) | exact Or.inr (by kernel_rfl!))))
 (s_cons (s_ret (d_or (d_cmp x_is (d_var (i := 2) rfl (by first | exact Or.inl (by kernel_rfl!) | exact Or.inr (Or.inl (by kernel_rfl!)) | exact Or.inr (Or.inr (by kernel_rfl!)))) d_non (nomark _)) (d_one (d_cmp x_lt (d_var (i := 2) rfl (by first | exact Or.inl (by kernel_rfl!) | exact Or.inr (Or.inl (by kernel_rfl!)) | exact Or.inr (Or.inr (by kernel_rfl!)))) (d_var (i := 0) rfl (by first | exact Or.inl (by kernel_rfl!) | exact Or.inr (Or.inl (by kernel_rfl!)) | exact Or.inr (Or.inr (by kernel_rfl!)))) (nomark _)))))
 s_nil))))
abbrev s_ends_well : Stmt := topS 24
theorem sc_ends_well : FnScope ["row"] ["row"] (defScope s_ends_well) := ⟨rfl, rfl, rfl, by decide +kernel, rfl, by decide +kernel, by decide +kernel⟩
theorem ok_ends_well (C : Fx P w K mg) : Cw P w K mg base 1 "ends_well" 1 W02.F_ends_well :=
 cl_mk W02.body_ends_well 1 1 C.f_ends_well sc_ends_well rfl rfl (by decide) (fun _ _ _ _ _ _ us hl => match us, hl with | [_], _ => rfl) (fun f cdv A outer s H E hgu hr => by
 have hu64 := hr.units
 have hu1 := hu_of hr
 have hu100 := hu100_of hr
 have hu65 := hu65_of hr
 have nd := sc_ends_well.nd
 exact (s_cons (s_ret (d_cmp (x_in hu65) (d_ix x_ix (d_var (i := 0) rfl (by first | exact Or.inl (by kernel_rfl!) | exact Or.inr (Or.inl (by kernel_rfl!)) | exact Or.inr (Or.inr (by kernel_rfl!)))) d_int (fun _ _ => rfl)) (d_gk C.g_LAST (gl_of (by kernel_rfl!)) (by decide)) (by kernel_rfl!)))
 s_nil))
abbrev s_Program : Stmt := memOf (topS 25) 0
theorem sc_Program : FnScope ["self", "rows", "at", "row"] ["self", "rows"] (defScope s_Program) := ⟨rfl, rfl, rfl, by decide +kernel, rfl, by decide +kernel, by decide +kernel⟩
theorem mk_Program (C : Fx P w K mg) : MkI P w K mg base 6 "Program" "Program.__init__" 1 W02.I_Program s_Program ["self", "rows"] :=
 mki (fs := W02.fs_Program) W02.front_Program 1 4 C.i_Program (by decide) (by decide) sc_Program rfl rfl (by decide) (fun f cdv A outer s H E W hgu hr tk => by
 have hu64 := hr.units
 have hu1 := hu_of hr
 have hu100 := hu100_of hr
 have hu65 := hu65_of hr
 have nd := sc_Program.nd
 exact (i_cons (s_if (w_or (q_not (q_val (d_callB x_isi (gl_of (by kernel_rfl!)) C.b_isinstance (by decide +kernel) (a_cons (d_var (i := 1) rfl (by first | exact Or.inl (by kernel_rfl!) | exact Or.inr (Or.inl (by kernel_rfl!)) | exact Or.inr (Or.inr (by kernel_rfl!)))) (a_cons (d_type (gl_of (by kernel_rfl!)) C.b_tuple (by decide +kernel)) a_nil))))) (w_or1 (q_not (q_chain x_leE x_leE d_int (d_callB x_len (gl_of (by kernel_rfl!)) C.b_len (by decide +kernel) (a_cons (d_var (i := 1) rfl (by first | exact Or.inl (by kernel_rfl!) | exact Or.inr (Or.inl (by kernel_rfl!)) | exact Or.inr (Or.inr (by kernel_rfl!)))) a_nil)) (d_gk C.g_MOST_ROWS (gl_of (by kernel_rfl!)) (by decide)))))).pt
(s_cons (s_raise (ex_NoProgram C) okI_ok rfl tk (hr.mono (by decide)) (gl_of (by kernel_rfl!)) (d_un x_neg d_int))
 s_nil)
s_nil)
 (i_cons (s_for (i_enumG (gl_of (by kernel_rfl!)) C.b_enumerate (a_cons (d_var (i := 1) rfl (by first | exact Or.inl (by kernel_rfl!) | exact Or.inr (Or.inl (by kernel_rfl!)) | exact Or.inr (Or.inr (by kernel_rfl!)))) a_nil)) (t_pair rfl (t_name nd rfl (by first | exact Or.inl (by kernel_rfl!) | exact Or.inr (by kernel_rfl!))) (t_name nd rfl (by first | exact Or.inl (by kernel_rfl!) | exact Or.inr (by kernel_rfl!))))
(s_cons (s_if (q_not (q_val (d_callC (ok_is_row_of C) hgu (hr.mono (by decide)) (gl_of (by kernel_rfl!)) (a_cons (d_callB x_len (gl_of (by kernel_rfl!)) C.b_len (by decide +kernel) (a_cons (d_var (i := 1) rfl (by first | exact Or.inl (by kernel_rfl!) | exact Or.inr (Or.inl (by kernel_rfl!)) | exact Or.inr (Or.inr (by kernel_rfl!)))) a_nil)) (a_cons (d_var (i := 3) rfl (by first | exact Or.inl (by kernel_rfl!) | exact Or.inr (Or.inl (by kernel_rfl!)) | exact Or.inr (Or.inr (by kernel_rfl!)))) a_nil)) (by decide) (by kernel_rfl!) (by kernel_rfl!))))
(s_cons (s_raise (ex_NoProgram C) okI_ok rfl tk (hr.mono (by decide)) (gl_of (by kernel_rfl!)) (d_var (i := 2) rfl (by first | exact Or.inl (by kernel_rfl!) | exact Or.inr (Or.inl (by kernel_rfl!)) | exact Or.inr (Or.inr (by kernel_rfl!)))))
 s_nil)
s_nil)
 s_nil) (passes_of rfl) rfl)
 (i_cons (s_if (q_not (q_val (d_callC (ok_ends_well C) hgu (hr.mono (by decide)) (gl_of (by kernel_rfl!)) (a_cons (d_ix x_ix (d_var (i := 1) rfl (by first | exact Or.inl (by kernel_rfl!) | exact Or.inr (Or.inl (by kernel_rfl!)) | exact Or.inr (Or.inr (by kernel_rfl!)))) (d_un x_neg d_int) (fun _ _ => rfl)) a_nil) (by decide) (by kernel_rfl!) (by kernel_rfl!))))
(s_cons (s_raise (ex_NoProgram C) okI_ok rfl tk (hr.mono (by decide)) (gl_of (by kernel_rfl!)) (d_callB x_len (gl_of (by kernel_rfl!)) C.b_len (by decide +kernel) (a_cons (d_var (i := 1) rfl (by first | exact Or.inl (by kernel_rfl!) | exact Or.inr (Or.inl (by kernel_rfl!)) | exact Or.inr (Or.inr (by kernel_rfl!)))) a_nil)))
 s_nil)
s_nil)
 (i_nil (i_set rfl (by first | exact Or.inl (by kernel_rfl!) | exact Or.inr (Or.inl (by kernel_rfl!)) | exact Or.inr (Or.inr (by kernel_rfl!))) rfl (by first | exact Or.inl (by kernel_rfl!) | exact Or.inr (Or.inl (by kernel_rfl!)) | exact Or.inr (Or.inr (by kernel_rfl!))) i_end))))))
abbrev s__law_kinds : Stmt := topS 30
theorem sc__law_kinds : FnScope ["_law_found"] [] (defScope s__law_kinds) := ⟨rfl, rfl, rfl, by decide +kernel, rfl, by decide +kernel, by decide +kernel⟩
theorem ok__law_kinds (C : Fx P w K mg) : Cw P w K mg base 1 "_law_kinds" 0 W01.F__law_kinds :=
 cl_mk W01.body__law_kinds 0 1 C.f__law_kinds sc__law_kinds rfl rfl (by decide) (fun _ _ _ _ _ _ us hl => match us, hl with | [], _ => rfl) (fun f cdv A outer s H E hgu hr => by
 have hu64 := hr.units
 have hu1 := hu_of hr
 have hu100 := hu100_of hr
 have hu65 := hu65_of hr
 have nd := sc__law_kinds.nd
 exact (s_cons (s_ownD (dp_cons d_str (dp_cons d_str (dp_cons d_str (dp_cons d_str (dp_cons d_str (dp_cons d_str (dp_cons d_str dp_nil))))))) (by kernel_rfl!) (by kernel_rfl!) (fun z => by cases z) (by decide) (by decide) (by decide +kernel) nd rfl (by first | exact Or.inl (by kernel_rfl!) | exact Or.inr (by kernel_rfl!)) (by first | exact Or.inl (by kernel_rfl!) | exact Or.inr (by kernel_rfl!)) (by kernel_rfl!) (by kernel_rfl!) (by kernel_rfl!))
 (s_cons (s_upd rfl (by first | exact Or.inl (by kernel_rfl!) | exact Or.inr (Or.inl (by kernel_rfl!)) | exact Or.inr (Or.inr (by kernel_rfl!))) (d_disp (dp_cons d_str (dp_cons d_str (dp_cons d_str (dp_cons d_str (dp_cons d_str (dp_cons d_str (dp_cons d_str dp_nil))))))) (by kernel_rfl!) (by kernel_rfl!) (fun z => by cases z) (by decide) (by decide) (by decide +kernel)))
 (s_cons (s_ret (d_var (i := 0) rfl (by first | exact Or.inl (by kernel_rfl!) | exact Or.inr (Or.inl (by kernel_rfl!)) | exact Or.inr (Or.inr (by kernel_rfl!)))))
 s_nil))))
abbrev s__law_number : Stmt := topS 31
theorem sc__law_number : FnScope ["_law_deck_here", "_law_way"] ["_law_deck_here"] (defScope s__law_number) := ⟨rfl, rfl, rfl, by decide +kernel, rfl, by decide +kernel, by decide +kernel⟩
theorem ok__law_number (C : Fx P w K mg) : Cw P w K mg base 2 "_law_number" 1 W01.F__law_number :=
 cl_mk W01.body__law_number 1 2 C.f__law_number sc__law_number rfl rfl (by decide) (fun _ _ _ _ _ _ us hl => match us, hl with | [_], _ => rfl) (fun f cdv A outer s H E hgu hr => by
 have hu64 := hr.units
 have hu1 := hu_of hr
 have hu100 := hu100_of hr
 have hu65 := hu65_of hr
 have nd := sc__law_number.nd
 exact (s_cons (s_asg (d_callC (ok__law_draw C) hgu (hr.mono (by decide)) (gl_of (by kernel_rfl!)) (a_cons (d_var (i := 0) rfl (by first | exact Or.inl (by kernel_rfl!) | exact Or.inr (Or.inl (by kernel_rfl!)) | exact Or.inr (Or.inr (by kernel_rfl!)))) (a_cons d_int a_nil)) (by decide) (by kernel_rfl!) (by kernel_rfl!)) (t_name nd rfl (by first | exact Or.inl (by kernel_rfl!) | exact Or.inr (by kernel_rfl!))))
 (s_cons (s_ret (d_ix x_ix (d_lst (a_cons (d_callC (ok__law_draw C) hgu (hr.mono (by decide)) (gl_of (by kernel_rfl!)) (a_cons (d_var (i := 0) rfl (by first | exact Or.inl (by kernel_rfl!) | exact Or.inr (Or.inl (by kernel_rfl!)) | exact Or.inr (Or.inr (by kernel_rfl!)))) (a_cons d_int a_nil)) (by decide) (by kernel_rfl!) (by kernel_rfl!)) (a_cons (d_op x_subB d_int (d_callC (ok__law_draw C) hgu (hr.mono (by decide)) (gl_of (by kernel_rfl!)) (a_cons (d_var (i := 0) rfl (by first | exact Or.inl (by kernel_rfl!) | exact Or.inr (Or.inl (by kernel_rfl!)) | exact Or.inr (Or.inr (by kernel_rfl!)))) (a_cons d_int a_nil)) (by decide) (by kernel_rfl!) (by kernel_rfl!))) (a_cons (d_callC (ok__law_draw C) hgu (hr.mono (by decide)) (gl_of (by kernel_rfl!)) (a_cons (d_var (i := 0) rfl (by first | exact Or.inl (by kernel_rfl!) | exact Or.inr (Or.inl (by kernel_rfl!)) | exact Or.inr (Or.inr (by kernel_rfl!)))) (a_cons (d_op x_pow d_int d_int) a_nil)) (by decide) (by kernel_rfl!) (by kernel_rfl!)) (a_cons (d_callC (ok__law_draw C) hgu (hr.mono (by decide)) (gl_of (by kernel_rfl!)) (a_cons (d_var (i := 0) rfl (by first | exact Or.inl (by kernel_rfl!) | exact Or.inr (Or.inl (by kernel_rfl!)) | exact Or.inr (Or.inr (by kernel_rfl!)))) (a_cons d_int a_nil)) (by decide) (by kernel_rfl!) (by kernel_rfl!)) a_nil))))) (d_var (i := 1) rfl (by first | exact Or.inl (by kernel_rfl!) | exact Or.inr (Or.inl (by kernel_rfl!)) | exact Or.inr (Or.inr (by kernel_rfl!)))) (fun _ _ => rfl)))
 s_nil)))
abbrev s__law_part : Stmt := topS 32
theorem sc__law_part : FnScope ["_law_deck_here", "_law_kind", "_law_many_here"] ["_law_deck_here", "_law_kind", "_law_many_here"] (defScope s__law_part) := ⟨rfl, rfl, rfl, by decide +kernel, rfl, by decide +kernel, by decide +kernel⟩
theorem ok__law_part (C : Fx P w K mg) : Cw P w K mg base 3 "_law_part" 3 W01.F__law_part :=
 cl_mk W01.body__law_part 3 3 C.f__law_part sc__law_part rfl rfl (by decide) (fun _ _ _ _ _ _ us hl => match us, hl with | [_, _, _], _ => rfl) (fun f cdv A outer s H E hgu hr => by
 have hu64 := hr.units
 have hu1 := hu_of hr
 have hu100 := hu100_of hr
 have hu65 := hu65_of hr
 have nd := sc__law_part.nd
 exact (s_cons (s_if (q_cmp (x_eqE hu64) (d_var (i := 1) rfl (by first | exact Or.inl (by kernel_rfl!) | exact Or.inr (Or.inl (by kernel_rfl!)) | exact Or.inr (Or.inr (by kernel_rfl!)))) d_str (nomark _))
(s_cons (s_ret (d_callC (ok__law_draw C) hgu (hr.mono (by decide)) (gl_of (by kernel_rfl!)) (a_cons (d_var (i := 0) rfl (by first | exact Or.inl (by kernel_rfl!) | exact Or.inr (Or.inl (by kernel_rfl!)) | exact Or.inr (Or.inr (by kernel_rfl!)))) (a_cons (d_var (i := 2) rfl (by first | exact Or.inl (by kernel_rfl!) | exact Or.inr (Or.inl (by kernel_rfl!)) | exact Or.inr (Or.inr (by kernel_rfl!)))) a_nil)) (by decide) (by kernel_rfl!) (by kernel_rfl!)))
 s_nil)
s_nil)
 (s_cons (s_if (w_or (q_cmp (x_eqE hu64) (d_var (i := 1) rfl (by first | exact Or.inl (by kernel_rfl!) | exact Or.inr (Or.inl (by kernel_rfl!)) | exact Or.inr (Or.inr (by kernel_rfl!)))) d_str (nomark _)) (w_or1 (q_cmp (x_eqE hu64) (d_callC (ok__law_draw C) hgu (hr.mono (by decide)) (gl_of (by kernel_rfl!)) (a_cons (d_var (i := 0) rfl (by first | exact Or.inl (by kernel_rfl!) | exact Or.inr (Or.inl (by kernel_rfl!)) | exact Or.inr (Or.inr (by kernel_rfl!)))) (a_cons d_int a_nil)) (by decide) (by kernel_rfl!) (by kernel_rfl!)) d_int (nomark _)))).pt
(s_cons (s_ret (d_ix x_ix d_str (d_callC (ok__law_draw C) hgu (hr.mono (by decide)) (gl_of (by kernel_rfl!)) (a_cons (d_var (i := 0) rfl (by first | exact Or.inl (by kernel_rfl!) | exact Or.inr (Or.inl (by kernel_rfl!)) | exact Or.inr (Or.inr (by kernel_rfl!)))) (a_cons d_int a_nil)) (by decide) (by kernel_rfl!) (by kernel_rfl!)) (fun _ _ => rfl)))
 s_nil)
s_nil)
 (s_cons (s_ret (d_callC (ok__law_number C) hgu (hr.mono (by decide)) (gl_of (by kernel_rfl!)) (a_cons (d_var (i := 0) rfl (by first | exact Or.inl (by kernel_rfl!) | exact Or.inr (Or.inl (by kernel_rfl!)) | exact Or.inr (Or.inr (by kernel_rfl!)))) a_nil) (by decide) (by kernel_rfl!) (by kernel_rfl!)))
 s_nil))))
abbrev s__law_row : Stmt := topS 33
theorem sc__law_row : FnScope ["_law_deck_here", "_law_many_here", "_law_kinds_here", "_law_word", "_law_kind"] ["_law_deck_here", "_law_many_here"] (defScope s__law_row) := ⟨rfl, rfl, rfl, by decide +kernel, rfl, by decide +kernel, by decide +kernel⟩
theorem ok__law_row (C : Fx P w K mg) : Cw P w K mg base 4 "_law_row" 2 W01.F__law_row :=
 cl_mk W01.body__law_row 2 5 C.f__law_row sc__law_row rfl rfl (by decide) (fun _ _ _ _ _ _ us hl => match us, hl with | [_, _], _ => rfl) (fun f cdv A outer s H E hgu hr => by
 have hu64 := hr.units
 have hu1 := hu_of hr
 have hu100 := hu100_of hr
 have hu65 := hu65_of hr
 have nd := sc__law_row.nd
 exact (s_cons (s_asg (d_callC0 (ok__law_kinds C) hgu (hr.mono (by decide)) (gl_of (by kernel_rfl!)) (by decide)) (t_name nd rfl (by first | exact Or.inl (by kernel_rfl!) | exact Or.inr (by kernel_rfl!))))
 (s_cons (s_asg (d_ix x_ix (d_callB (x_sortedE rfl) (gl_of (by kernel_rfl!)) C.b_sorted (by decide +kernel) (a_cons (d_var (i := 2) rfl (by first | exact Or.inl (by kernel_rfl!) | exact Or.inr (Or.inl (by kernel_rfl!)) | exact Or.inr (Or.inr (by kernel_rfl!)))) a_nil)) (d_callC (ok__law_draw C) hgu (hr.mono (by decide)) (gl_of (by kernel_rfl!)) (a_cons (d_var (i := 0) rfl (by first | exact Or.inl (by kernel_rfl!) | exact Or.inr (Or.inl (by kernel_rfl!)) | exact Or.inr (Or.inr (by kernel_rfl!)))) (a_cons d_int a_nil)) (by decide) (by kernel_rfl!) (by kernel_rfl!)) (fun _ _ => rfl)) (t_name nd rfl (by first | exact Or.inl (by kernel_rfl!) | exact Or.inr (by kernel_rfl!))))
 (s_cons (s_ret (d_op x_addB (d_tup (a_cons (d_var (i := 3) rfl (by first | exact Or.inl (by kernel_rfl!) | exact Or.inr (Or.inl (by kernel_rfl!)) | exact Or.inr (Or.inr (by kernel_rfl!)))) a_nil)) (d_callTy x_tuple (gl_of (by kernel_rfl!)) C.b_tuple (by decide +kernel) (a_cons (d_comp (own := [("_law_kind", 4)]) (hc := rfl) (hN := nd) (hi := (i_src (d_get hu1 (d_var (i := 2) rfl (by first | exact Or.inl (by kernel_rfl!) | exact Or.inr (Or.inl (by kernel_rfl!)) | exact Or.inr (Or.inr (by kernel_rfl!)))) (d_var (i := 3) rfl (by first | exact Or.inl (by kernel_rfl!) | exact Or.inr (Or.inl (by kernel_rfl!)) | exact Or.inr (Or.inr (by kernel_rfl!)))) (fun _ _ => rfl)))) (ok := blkOk_by (by kernel_rfl!)) (hg := fun _ _ _ _ _ => (t_name nd rfl (by first | exact Or.inl (by kernel_rfl!) | exact Or.inr (by kernel_rfl!)))) (ht := fun _ _ _ _ _ => q_nil) (he := fun _ _ _ _ _ => (d_callC (ok__law_part C) hgu (hr.mono (by decide)) (gl_of (by kernel_rfl!)) (a_cons (d_var (i := 0) rfl (by first | exact Or.inl (by kernel_rfl!) | exact Or.inr (Or.inl (by kernel_rfl!)) | exact Or.inr (Or.inr (by kernel_rfl!)))) (a_cons (d_var (i := 4) rfl (by first | exact Or.inl (by kernel_rfl!) | exact Or.inr (Or.inl (by kernel_rfl!)) | exact Or.inr (Or.inr (by kernel_rfl!)))) (a_cons (d_var (i := 1) rfl (by first | exact Or.inl (by kernel_rfl!) | exact Or.inr (Or.inl (by kernel_rfl!)) | exact Or.inr (Or.inr (by kernel_rfl!)))) a_nil))) (by decide) (by kernel_rfl!) (by kernel_rfl!)))) a_nil))))
 s_nil))))
abbrev s__law_classes : Stmt := topS 36
theorem sc__law_classes : FnScope ["_law_error", "_law_some"] ["_law_error"] (defScope s__law_classes) := ⟨rfl, rfl, rfl, by decide +kernel, rfl, by decide +kernel, by decide +kernel⟩
theorem okq__law_classes (C : Fx P w K mg) : CwQ P w K mg base 1 "_law_classes" 1 W02.F__law_classes :=
 clQ W02.body__law_classes 1 2 C.f__law_classes sc__law_classes rfl rfl (by decide) (fun _ _ _ _ _ _ us hl => match us, hl with | [_], _ => rfl) (fun f cdv A outer s H E hgu hr => by
 have hu64 := hq64 hr
 have hu1 := hq1 hr
 have hu100 := hq100 hr
 have hu65 := hq65 hr
 have nd := sc__law_classes.nd
 exact (s_cons (s_asg (d_lst (a_cons (d_isQ (C.q_NoProgram.q C.kc (by decide)) (gl_of (by kernel_rfl!)) (gl_of (by kernel_rfl!)) C.b_isinstance (d_var (i := 0) rfl (by first | exact Or.inl (by kernel_rfl!) | exact Or.inr (Or.inl (by kernel_rfl!)) | exact Or.inr (Or.inr (by kernel_rfl!)))) (by decide)) (a_cons (d_isQ (C.q_NoText.q C.kc (by decide)) (gl_of (by kernel_rfl!)) (gl_of (by kernel_rfl!)) C.b_isinstance (d_var (i := 0) rfl (by first | exact Or.inl (by kernel_rfl!) | exact Or.inr (Or.inl (by kernel_rfl!)) | exact Or.inr (Or.inr (by kernel_rfl!)))) (by decide)) (a_cons (d_isQ (C.q_NoGear.q C.kc (by decide)) (gl_of (by kernel_rfl!)) (gl_of (by kernel_rfl!)) C.b_isinstance (d_var (i := 0) rfl (by first | exact Or.inl (by kernel_rfl!) | exact Or.inr (Or.inl (by kernel_rfl!)) | exact Or.inr (Or.inr (by kernel_rfl!)))) (by decide)) a_nil)))) (t_name nd rfl (by first | exact Or.inl (by kernel_rfl!) | exact Or.inr (by kernel_rfl!))))
 (s_cons (s_asg (d_op x_addB (d_var (i := 1) rfl (by first | exact Or.inl (by kernel_rfl!) | exact Or.inr (Or.inl (by kernel_rfl!)) | exact Or.inr (Or.inr (by kernel_rfl!)))) (d_lst (a_cons (d_isQ (C.q_NoPlan.q C.kc (by decide)) (gl_of (by kernel_rfl!)) (gl_of (by kernel_rfl!)) C.b_isinstance (d_var (i := 0) rfl (by first | exact Or.inl (by kernel_rfl!) | exact Or.inr (Or.inl (by kernel_rfl!)) | exact Or.inr (Or.inr (by kernel_rfl!)))) (by decide)) (a_cons (d_isQ (C.q_NoRow.q C.kc (by decide)) (gl_of (by kernel_rfl!)) (gl_of (by kernel_rfl!)) C.b_isinstance (d_var (i := 0) rfl (by first | exact Or.inl (by kernel_rfl!) | exact Or.inr (Or.inl (by kernel_rfl!)) | exact Or.inr (Or.inr (by kernel_rfl!)))) (by decide)) (a_cons (d_isQ (C.q_TooMany.q C.kc (by decide)) (gl_of (by kernel_rfl!)) (gl_of (by kernel_rfl!)) C.b_isinstance (d_var (i := 0) rfl (by first | exact Or.inl (by kernel_rfl!) | exact Or.inr (Or.inl (by kernel_rfl!)) | exact Or.inr (Or.inr (by kernel_rfl!)))) (by decide)) a_nil))))) (t_name nd rfl (by first | exact Or.inl (by kernel_rfl!) | exact Or.inr (by kernel_rfl!))))
 (s_cons (s_ret (d_op x_addB (d_var (i := 1) rfl (by first | exact Or.inl (by kernel_rfl!) | exact Or.inr (Or.inl (by kernel_rfl!)) | exact Or.inr (Or.inr (by kernel_rfl!)))) (d_lst (a_cons (d_isQ (C.q_WeaveError.q C.kc (by decide)) (gl_of (by kernel_rfl!)) (gl_of (by kernel_rfl!)) C.b_isinstance (d_var (i := 0) rfl (by first | exact Or.inl (by kernel_rfl!) | exact Or.inr (Or.inl (by kernel_rfl!)) | exact Or.inr (Or.inr (by kernel_rfl!)))) (by decide)) (a_cons (d_isQ (C.q_ValueError.q C.kc (by decide)) (gl_of (by kernel_rfl!)) (gl_of (by kernel_rfl!)) C.b_isinstance (d_var (i := 0) rfl (by first | exact Or.inl (by kernel_rfl!) | exact Or.inr (Or.inl (by kernel_rfl!)) | exact Or.inr (Or.inr (by kernel_rfl!)))) (by decide)) (a_cons (d_isQ (C.q_IndexError.q C.kc (by decide)) (gl_of (by kernel_rfl!)) (gl_of (by kernel_rfl!)) C.b_isinstance (d_var (i := 0) rfl (by first | exact Or.inl (by kernel_rfl!) | exact Or.inr (Or.inl (by kernel_rfl!)) | exact Or.inr (Or.inr (by kernel_rfl!)))) (by decide)) a_nil))))))
 s_nil))))
theorem ok__law_classes (C : Fx P w K mg) : Cw P w K mg base 1 "_law_classes" 1 W02.F__law_classes :=
 cl_mk W02.body__law_classes 1 2 C.f__law_classes sc__law_classes rfl rfl (by decide) (fun _ _ _ _ _ _ us hl => match us, hl with | [_], _ => rfl) (fun f cdv A outer s H E hgu hr => by
 have hu64 := hr.units
 have hu1 := hu_of hr
 have hu100 := hu100_of hr
 have hu65 := hu65_of hr
 have nd := sc__law_classes.nd
 exact (s_cons (s_asg (d_lst (a_cons (d_isQ (C.q_NoProgram.q C.kc (by decide)) (gl_of (by kernel_rfl!)) (gl_of (by kernel_rfl!)) C.b_isinstance (d_var (i := 0) rfl (by first | exact Or.inl (by kernel_rfl!) | exact Or.inr (Or.inl (by kernel_rfl!)) | exact Or.inr (Or.inr (by kernel_rfl!)))) (by decide)) (a_cons (d_isQ (C.q_NoText.q C.kc (by decide)) (gl_of (by kernel_rfl!)) (gl_of (by kernel_rfl!)) C.b_isinstance (d_var (i := 0) rfl (by first | exact Or.inl (by kernel_rfl!) | exact Or.inr (Or.inl (by kernel_rfl!)) | exact Or.inr (Or.inr (by kernel_rfl!)))) (by decide)) (a_cons (d_isQ (C.q_NoGear.q C.kc (by decide)) (gl_of (by kernel_rfl!)) (gl_of (by kernel_rfl!)) C.b_isinstance (d_var (i := 0) rfl (by first | exact Or.inl (by kernel_rfl!) | exact Or.inr (Or.inl (by kernel_rfl!)) | exact Or.inr (Or.inr (by kernel_rfl!)))) (by decide)) a_nil)))) (t_name nd rfl (by first | exact Or.inl (by kernel_rfl!) | exact Or.inr (by kernel_rfl!))))
 (s_cons (s_asg (d_op x_addB (d_var (i := 1) rfl (by first | exact Or.inl (by kernel_rfl!) | exact Or.inr (Or.inl (by kernel_rfl!)) | exact Or.inr (Or.inr (by kernel_rfl!)))) (d_lst (a_cons (d_isQ (C.q_NoPlan.q C.kc (by decide)) (gl_of (by kernel_rfl!)) (gl_of (by kernel_rfl!)) C.b_isinstance (d_var (i := 0) rfl (by first | exact Or.inl (by kernel_rfl!) | exact Or.inr (Or.inl (by kernel_rfl!)) | exact Or.inr (Or.inr (by kernel_rfl!)))) (by decide)) (a_cons (d_isQ (C.q_NoRow.q C.kc (by decide)) (gl_of (by kernel_rfl!)) (gl_of (by kernel_rfl!)) C.b_isinstance (d_var (i := 0) rfl (by first | exact Or.inl (by kernel_rfl!) | exact Or.inr (Or.inl (by kernel_rfl!)) | exact Or.inr (Or.inr (by kernel_rfl!)))) (by decide)) (a_cons (d_isQ (C.q_TooMany.q C.kc (by decide)) (gl_of (by kernel_rfl!)) (gl_of (by kernel_rfl!)) C.b_isinstance (d_var (i := 0) rfl (by first | exact Or.inl (by kernel_rfl!) | exact Or.inr (Or.inl (by kernel_rfl!)) | exact Or.inr (Or.inr (by kernel_rfl!)))) (by decide)) a_nil))))) (t_name nd rfl (by first | exact Or.inl (by kernel_rfl!) | exact Or.inr (by kernel_rfl!))))
 (s_cons (s_ret (d_op x_addB (d_var (i := 1) rfl (by first | exact Or.inl (by kernel_rfl!) | exact Or.inr (Or.inl (by kernel_rfl!)) | exact Or.inr (Or.inr (by kernel_rfl!)))) (d_lst (a_cons (d_isQ (C.q_WeaveError.q C.kc (by decide)) (gl_of (by kernel_rfl!)) (gl_of (by kernel_rfl!)) C.b_isinstance (d_var (i := 0) rfl (by first | exact Or.inl (by kernel_rfl!) | exact Or.inr (Or.inl (by kernel_rfl!)) | exact Or.inr (Or.inr (by kernel_rfl!)))) (by decide)) (a_cons (d_isQ (C.q_ValueError.q C.kc (by decide)) (gl_of (by kernel_rfl!)) (gl_of (by kernel_rfl!)) C.b_isinstance (d_var (i := 0) rfl (by first | exact Or.inl (by kernel_rfl!) | exact Or.inr (Or.inl (by kernel_rfl!)) | exact Or.inr (Or.inr (by kernel_rfl!)))) (by decide)) (a_cons (d_isQ (C.q_IndexError.q C.kc (by decide)) (gl_of (by kernel_rfl!)) (gl_of (by kernel_rfl!)) C.b_isinstance (d_var (i := 0) rfl (by first | exact Or.inl (by kernel_rfl!) | exact Or.inr (Or.inl (by kernel_rfl!)) | exact Or.inr (Or.inr (by kernel_rfl!)))) (by decide)) a_nil))))))
 s_nil))))
abbrev s__law_made : Stmt := topS 37
theorem sc__law_made : FnScope ["_law_rows_here", "_law_told", "e"] ["_law_rows_here"] (defScope s__law_made) := ⟨rfl, rfl, rfl, by decide +kernel, rfl, by decide +kernel, by decide +kernel⟩
theorem ok__law_made (C : Fx P w K mg) : Cw P w K mg base 8 "_law_made" 1 W02.F__law_made :=
 cl_mk W02.body__law_made 1 3 C.f__law_made sc__law_made rfl rfl (by decide) (fun _ _ _ _ _ _ us hl => match us, hl with | [_], _ => rfl) (fun f cdv A outer s H E hgu hr => by
 have hu64 := hr.units
 have hu1 := hu_of hr
 have hu100 := hu100_of hr
 have hu65 := hu65_of hr
 have nd := sc__law_made.nd
 exact (s_cons (s_asg d_non (t_name nd rfl (by first | exact Or.inl (by kernel_rfl!) | exact Or.inr (by kernel_rfl!))))
 (s_cons (s_tryC (i := 2) rfl rfl nd rfl (by kernel_rfl!) C.y_NoProgram (gl_of (by kernel_rfl!)) (by decide) takes0 (fun W pn xe tk po => (s_cons (s_asgX (d_xTup (d_axCons (d_xE d_str) (d_axCons (d_xFld C.l_rows.fld (d_make (mk_Program C) tk hgu (hr.mono (by decide)) (gl_of (by kernel_rfl!)) (a_cons (d_var (i := 0) rfl (by first | exact Or.inl (by kernel_rfl!) | exact Or.inr (Or.inl (by kernel_rfl!)) | exact Or.inr (Or.inr (by kernel_rfl!)))) a_nil) 1 (len_cons len_nil) (fun _ _ _ _ _ _ u us hl => match us, hl with | [_], _ => rfl))) (d_xA a_nil)))) (t_name nd rfl (by first | exact Or.inl (by kernel_rfl!) | exact Or.inr (by kernel_rfl!))))
 s_nil)) (fun a pn => (s_cons (s_asg (d_tup (a_cons (d_callQ (okq__law_classes C) hgu (roomQ_mark (hr.mono (by decide))) (gl_of (by kernel_rfl!)) (a_cons (d_var (i := 2) rfl (by first | exact Or.inl (by kernel_rfl!) | exact Or.inr (Or.inl (by kernel_rfl!)) | exact Or.inr (Or.inr (by kernel_rfl!)))) a_nil) (by decide) (by kernel_rfl!) (by kernel_rfl!)) (a_cons (d_fld C.l_row.fld (d_var (i := 2) rfl (by first | exact Or.inl (by kernel_rfl!) | exact Or.inr (Or.inl (by kernel_rfl!)) | exact Or.inr (Or.inr (by kernel_rfl!))))) a_nil))) (t_name nd rfl (by first | exact Or.inl (by kernel_rfl!) | exact Or.inr (by kernel_rfl!))))
 s_nil)))
 (s_cons (s_ret (d_var (i := 1) rfl (by first | exact Or.inl (by kernel_rfl!) | exact Or.inr (Or.inl (by kernel_rfl!)) | exact Or.inr (Or.inr (by kernel_rfl!)))))
 s_nil))))
abbrev s__law_refused : Stmt := topS 38
theorem sc__law_refused : FnScope ["_law_thing", "_law_at", "_law_kept", "_law_due"] ["_law_thing", "_law_at"] (defScope s__law_refused) := ⟨rfl, rfl, rfl, by decide +kernel, rfl, by decide +kernel, by decide +kernel⟩
theorem ok__law_refused (C : Fx P w K mg) : Cw P w K mg base 9 "_law_refused" 2 W03.F__law_refused :=
 cl_mk W03.body__law_refused 2 4 C.f__law_refused sc__law_refused rfl rfl (by decide) (fun _ _ _ _ _ _ us hl => match us, hl with | [_, _], _ => rfl) (fun f cdv A outer s H E hgu hr => by
 have hu64 := hr.units
 have hu1 := hu_of hr
 have hu100 := hu100_of hr
 have hu65 := hu65_of hr
 have nd := sc__law_refused.nd
 exact (s_cons (s_asg (d_callB (x_repr hgu hu100) (gl_of (by kernel_rfl!)) C.b_repr (by decide +kernel) (a_cons (d_var (i := 0) rfl (by first | exact Or.inl (by kernel_rfl!) | exact Or.inr (Or.inl (by kernel_rfl!)) | exact Or.inr (Or.inr (by kernel_rfl!)))) a_nil)) (t_name nd rfl (by first | exact Or.inl (by kernel_rfl!) | exact Or.inr (by kernel_rfl!))))
 (s_cons (s_asg (d_callB (x_repr hgu hu100) (gl_of (by kernel_rfl!)) C.b_repr (by decide +kernel) (a_cons (d_tup (a_cons (d_lst (a_cons d_bl (a_cons d_bl (a_cons d_bl (a_cons d_bl (a_cons d_bl (a_cons d_bl (a_cons d_bl (a_cons d_bl (a_cons d_bl a_nil)))))))))) (a_cons (d_var (i := 1) rfl (by first | exact Or.inl (by kernel_rfl!) | exact Or.inr (Or.inl (by kernel_rfl!)) | exact Or.inr (Or.inr (by kernel_rfl!)))) a_nil))) a_nil)) (t_name nd rfl (by first | exact Or.inl (by kernel_rfl!) | exact Or.inr (by kernel_rfl!))))
 (s_cons (s_ret (d_and (d_cmp (x_eqE hu64) (d_callB (x_repr hgu hu100) (gl_of (by kernel_rfl!)) C.b_repr (by decide +kernel) (a_cons (d_callC (ok__law_made C) hgu (hr.mono (by decide)) (gl_of (by kernel_rfl!)) (a_cons (d_var (i := 0) rfl (by first | exact Or.inl (by kernel_rfl!) | exact Or.inr (Or.inl (by kernel_rfl!)) | exact Or.inr (Or.inr (by kernel_rfl!)))) a_nil) (by decide) (by kernel_rfl!) (by kernel_rfl!)) a_nil)) (d_var (i := 3) rfl (by first | exact Or.inl (by kernel_rfl!) | exact Or.inr (Or.inl (by kernel_rfl!)) | exact Or.inr (Or.inr (by kernel_rfl!)))) (nomark _)) (d_and (d_cmp (x_eqE hu64) (d_callB (x_repr hgu hu100) (gl_of (by kernel_rfl!)) C.b_repr (by decide +kernel) (a_cons (d_callC (ok__law_made C) hgu (hr.mono (by decide)) (gl_of (by kernel_rfl!)) (a_cons (d_var (i := 0) rfl (by first | exact Or.inl (by kernel_rfl!) | exact Or.inr (Or.inl (by kernel_rfl!)) | exact Or.inr (Or.inr (by kernel_rfl!)))) a_nil) (by decide) (by kernel_rfl!) (by kernel_rfl!)) a_nil)) (d_var (i := 3) rfl (by first | exact Or.inl (by kernel_rfl!) | exact Or.inr (Or.inl (by kernel_rfl!)) | exact Or.inr (Or.inr (by kernel_rfl!)))) (nomark _)) (d_one (d_cmp (x_eqE hu64) (d_callB (x_repr hgu hu100) (gl_of (by kernel_rfl!)) C.b_repr (by decide +kernel) (a_cons (d_var (i := 0) rfl (by first | exact Or.inl (by kernel_rfl!) | exact Or.inr (Or.inl (by kernel_rfl!)) | exact Or.inr (Or.inr (by kernel_rfl!)))) a_nil)) (d_var (i := 2) rfl (by first | exact Or.inl (by kernel_rfl!) | exact Or.inr (Or.inl (by kernel_rfl!)) | exact Or.inr (Or.inr (by kernel_rfl!)))) (nomark _))))))
 s_nil))))
abbrev s__law_deep : Stmt := topS 39
theorem sc__law_deep : FnScope ["_law_many_here", "_law_found", "_law_k"] ["_law_many_here"] (defScope s__law_deep) := ⟨rfl, rfl, rfl, by decide +kernel, rfl, by decide +kernel, by decide +kernel⟩
theorem ok__law_deep (C : Fx P w K mg) : Cw P w K mg base 1 "_law_deep" 1 W03.F__law_deep :=
 cl_mk W03.body__law_deep 1 3 C.f__law_deep sc__law_deep rfl rfl (by decide) (fun _ _ _ _ _ _ us hl => match us, hl with | [_], _ => rfl) (fun f cdv A outer s H E hgu hr => by
 have hu64 := hr.units
 have hu1 := hu_of hr
 have hu100 := hu100_of hr
 have hu65 := hu65_of hr
 have nd := sc__law_deep.nd
 exact (s_cons (s_asg (d_tup a_nil) (t_name nd rfl (by first | exact Or.inl (by kernel_rfl!) | exact Or.inr (by kernel_rfl!))))
 (s_cons (s_for (i_range1 (gl_of (by kernel_rfl!)) C.b_range (a_cons (d_var (i := 0) rfl (by first | exact Or.inl (by kernel_rfl!) | exact Or.inr (Or.inl (by kernel_rfl!)) | exact Or.inr (Or.inr (by kernel_rfl!)))) a_nil)) (t_name nd rfl (by first | exact Or.inl (by kernel_rfl!) | exact Or.inr (by kernel_rfl!)))
(s_cons (s_asg (d_tup (a_cons (d_var (i := 1) rfl (by first | exact Or.inl (by kernel_rfl!) | exact Or.inr (Or.inl (by kernel_rfl!)) | exact Or.inr (Or.inr (by kernel_rfl!)))) a_nil)) (t_name nd rfl (by first | exact Or.inl (by kernel_rfl!) | exact Or.inr (by kernel_rfl!))))
 s_nil) PassesOwn.never rfl)
 (s_cons (s_ret (d_var (i := 1) rfl (by first | exact Or.inl (by kernel_rfl!) | exact Or.inr (Or.inl (by kernel_rfl!)) | exact Or.inr (Or.inr (by kernel_rfl!)))))
 s_nil))))
abbrev s_law : Stmt := topS 40
theorem sc_law : FnScope ["_law_script", "_law_deck_here", "_law_end", "_law_row_here", "_law_thing", "_law_many_here", "_law_odd", "_law_at", "_law_good", "_law_far"] ["_law_script"] (defScope s_law) := ⟨rfl, rfl, rfl, by decide +kernel, rfl, by decide +kernel, by decide +kernel⟩
theorem at_law (C : Fx P w K mg) {f : Addr} {fd : FuncData} (Fu : Fun K "law" "law" (topS 40) f fd) : FnG P w K mg base CX0 10 f fd ["_law_script"] (spS K 1 W03.F_law) :=
 fn_mk W03.body_law 1 10 Fu sc_law rfl rfl (by decide) (fun f cdv A outer s H E hgu hr => by
 have hu64 := hr.units
 have hu1 := hu_of hr
 have hu100 := hu100_of hr
 have hu65 := hu65_of hr
 have nd := sc_law.nd
 exact (s_cons (s_asg (d_callC (ok__law_deck C) hgu (hr.mono (by decide)) (gl_of (by kernel_rfl!)) (a_cons (d_var (i := 0) rfl (by first | exact Or.inl (by kernel_rfl!) | exact Or.inr (Or.inl (by kernel_rfl!)) | exact Or.inr (Or.inr (by kernel_rfl!)))) a_nil) (by decide) (by kernel_rfl!) (by kernel_rfl!)) (t_name nd rfl (by first | exact Or.inl (by kernel_rfl!) | exact Or.inr (by kernel_rfl!))))
 (s_cons (s_asg (d_tup (a_cons d_str (a_cons (d_callC (ok__law_number C) hgu (hr.mono (by decide)) (gl_of (by kernel_rfl!)) (a_cons (d_var (i := 1) rfl (by first | exact Or.inl (by kernel_rfl!) | exact Or.inr (Or.inl (by kernel_rfl!)) | exact Or.inr (Or.inr (by kernel_rfl!)))) a_nil) (by decide) (by kernel_rfl!) (by kernel_rfl!)) a_nil))) (t_name nd rfl (by first | exact Or.inl (by kernel_rfl!) | exact Or.inr (by kernel_rfl!))))
 (s_cons (s_asg (d_callC (ok__law_row C) hgu (hr.mono (by decide)) (gl_of (by kernel_rfl!)) (a_cons (d_var (i := 1) rfl (by first | exact Or.inl (by kernel_rfl!) | exact Or.inr (Or.inl (by kernel_rfl!)) | exact Or.inr (Or.inr (by kernel_rfl!)))) (a_cons d_int a_nil)) (by decide) (by kernel_rfl!) (by kernel_rfl!)) (t_name nd rfl (by first | exact Or.inl (by kernel_rfl!) | exact Or.inr (by kernel_rfl!))))
 (s_cons (s_for (i_src (d_lst (a_cons d_non (a_cons d_bl (a_cons d_bl (a_cons d_int (a_cons d_int (a_cons (d_un x_neg d_int) (a_cons (d_op x_pow d_int d_int) (a_cons d_str (a_cons d_str (a_cons (d_lst a_nil) (a_cons (d_lst (a_cons (d_var (i := 2) rfl (by first | exact Or.inl (by kernel_rfl!) | exact Or.inr (Or.inl (by kernel_rfl!)) | exact Or.inr (Or.inr (by kernel_rfl!)))) a_nil)) (a_cons d_dict0 (a_cons (d_disp (dp_consI (d_var (i := 2) rfl (by first | exact Or.inl (by kernel_rfl!) | exact Or.inr (Or.inl (by kernel_rfl!)) | exact Or.inr (Or.inr (by kernel_rfl!)))) dp_nil) (by kernel_rfl!) (by kernel_rfl!) (fun z => by cases z) (by decide) (by decide) (by decide +kernel)) (a_cons (d_tup a_nil) a_nil)))))))))))))))) (t_name nd rfl (by first | exact Or.inl (by kernel_rfl!) | exact Or.inr (by kernel_rfl!)))
(s_cons (s_if (q_not (q_val (d_callC (ok__law_refused C) hgu (hr.mono (by decide)) (gl_of (by kernel_rfl!)) (a_cons (d_var (i := 4) rfl (by first | exact Or.inl (by kernel_rfl!) | exact Or.inr (Or.inl (by kernel_rfl!)) | exact Or.inr (Or.inr (by kernel_rfl!)))) (a_cons (d_un x_neg d_int) a_nil)) (by decide) (by kernel_rfl!) (by kernel_rfl!))))
(s_cons (s_ret d_bl)
 s_nil)
s_nil)
 s_nil) PassesOwn.never rfl)
 (s_cons (s_for (i_src (d_lst (a_cons d_int (a_cons d_int (a_cons d_int (a_cons d_int a_nil)))))) (t_name nd rfl (by first | exact Or.inl (by kernel_rfl!) | exact Or.inr (by kernel_rfl!)))
(s_cons (s_if (q_not (q_val (d_callC (ok__law_refused C) hgu (hr.mono (by decide)) (gl_of (by kernel_rfl!)) (a_cons (d_op x_addB (d_op x_mulB (d_tup (a_cons (d_var (i := 3) rfl (by first | exact Or.inl (by kernel_rfl!) | exact Or.inr (Or.inl (by kernel_rfl!)) | exact Or.inr (Or.inr (by kernel_rfl!)))) a_nil)) (d_op x_subB (d_var (i := 5) rfl (by first | exact Or.inl (by kernel_rfl!) | exact Or.inr (Or.inl (by kernel_rfl!)) | exact Or.inr (Or.inr (by kernel_rfl!)))) d_int)) (d_tup (a_cons (d_var (i := 2) rfl (by first | exact Or.inl (by kernel_rfl!) | exact Or.inr (Or.inl (by kernel_rfl!)) | exact Or.inr (Or.inr (by kernel_rfl!)))) a_nil))) (a_cons (d_un x_neg d_int) a_nil)) (by decide) (by kernel_rfl!) (by kernel_rfl!))))
(s_cons (s_ret d_bl)
 s_nil)
s_nil)
 s_nil) PassesOwn.never rfl)
 (s_cons (s_asg (d_lst (a_cons d_non (a_cons d_bl (a_cons d_int (a_cons d_str (a_cons (d_lst (a_cons (d_var (i := 2) rfl (by first | exact Or.inl (by kernel_rfl!) | exact Or.inr (Or.inl (by kernel_rfl!)) | exact Or.inr (Or.inr (by kernel_rfl!)))) a_nil)) (a_cons (d_callTy x_list (gl_of (by kernel_rfl!)) C.b_list (by decide +kernel) (a_cons (d_var (i := 2) rfl (by first | exact Or.inl (by kernel_rfl!) | exact Or.inr (Or.inl (by kernel_rfl!)) | exact Or.inr (Or.inr (by kernel_rfl!)))) a_nil)) (a_cons d_dict0 (a_cons (d_tup a_nil) (a_cons (d_tup (a_cons (d_var (i := 2) rfl (by first | exact Or.inl (by kernel_rfl!) | exact Or.inr (Or.inl (by kernel_rfl!)) | exact Or.inr (Or.inr (by kernel_rfl!)))) a_nil)) (a_cons (d_op x_addB (d_var (i := 2) rfl (by first | exact Or.inl (by kernel_rfl!) | exact Or.inr (Or.inl (by kernel_rfl!)) | exact Or.inr (Or.inr (by kernel_rfl!)))) (d_tup (a_cons d_int a_nil))) (a_cons (d_slice (d_var (i := 2) rfl (by first | exact Or.inl (by kernel_rfl!) | exact Or.inr (Or.inl (by kernel_rfl!)) | exact Or.inr (Or.inr (by kernel_rfl!)))) o_none (o_some d_int)) (a_cons (d_callC (ok__law_deep C) hgu (hr.mono (by decide)) (gl_of (by kernel_rfl!)) (a_cons d_int a_nil) (by decide) (by kernel_rfl!) (by kernel_rfl!)) a_nil))))))))))))) (t_name nd rfl (by first | exact Or.inl (by kernel_rfl!) | exact Or.inr (by kernel_rfl!))))
 (s_cons (s_asg (d_op x_addB (d_var (i := 6) rfl (by first | exact Or.inl (by kernel_rfl!) | exact Or.inr (Or.inl (by kernel_rfl!)) | exact Or.inr (Or.inr (by kernel_rfl!)))) (d_lst (a_cons (d_tup (a_cons d_str (a_cons (d_op x_pow d_int d_int) a_nil))) (a_cons (d_tup (a_cons d_str (a_cons (d_op x_pow d_int d_int) a_nil))) (a_cons (d_tup (a_cons d_str (a_cons d_str a_nil))) a_nil))))) (t_name nd rfl (by first | exact Or.inl (by kernel_rfl!) | exact Or.inr (by kernel_rfl!))))
 (s_cons (s_for (i_src (d_var (i := 6) rfl (by first | exact Or.inl (by kernel_rfl!) | exact Or.inr (Or.inl (by kernel_rfl!)) | exact Or.inr (Or.inr (by kernel_rfl!))))) (t_name nd rfl (by first | exact Or.inl (by kernel_rfl!) | exact Or.inr (by kernel_rfl!)))
(s_cons (s_asg (d_callC (ok__law_draw C) hgu (hr.mono (by decide)) (gl_of (by kernel_rfl!)) (a_cons (d_var (i := 1) rfl (by first | exact Or.inl (by kernel_rfl!) | exact Or.inr (Or.inl (by kernel_rfl!)) | exact Or.inr (Or.inr (by kernel_rfl!)))) (a_cons d_int a_nil)) (by decide) (by kernel_rfl!) (by kernel_rfl!)) (t_name nd rfl (by first | exact Or.inl (by kernel_rfl!) | exact Or.inr (by kernel_rfl!))))
 (s_cons (s_if (w_or (q_not (q_val (d_callC (ok__law_refused C) hgu (hr.mono (by decide)) (gl_of (by kernel_rfl!)) (a_cons (d_op x_addB (d_op x_mulB (d_tup (a_cons (d_var (i := 2) rfl (by first | exact Or.inl (by kernel_rfl!) | exact Or.inr (Or.inl (by kernel_rfl!)) | exact Or.inr (Or.inr (by kernel_rfl!)))) a_nil)) (d_var (i := 7) rfl (by first | exact Or.inl (by kernel_rfl!) | exact Or.inr (Or.inl (by kernel_rfl!)) | exact Or.inr (Or.inr (by kernel_rfl!))))) (d_tup (a_cons (d_var (i := 4) rfl (by first | exact Or.inl (by kernel_rfl!) | exact Or.inr (Or.inl (by kernel_rfl!)) | exact Or.inr (Or.inr (by kernel_rfl!)))) a_nil))) (a_cons (d_var (i := 7) rfl (by first | exact Or.inl (by kernel_rfl!) | exact Or.inr (Or.inl (by kernel_rfl!)) | exact Or.inr (Or.inr (by kernel_rfl!)))) a_nil)) (by decide) (by kernel_rfl!) (by kernel_rfl!)))) (w_or1 (q_not (q_val (d_callC (ok__law_refused C) hgu (hr.mono (by decide)) (gl_of (by kernel_rfl!)) (a_cons (d_op x_addB (d_op x_mulB (d_tup (a_cons (d_var (i := 2) rfl (by first | exact Or.inl (by kernel_rfl!) | exact Or.inr (Or.inl (by kernel_rfl!)) | exact Or.inr (Or.inr (by kernel_rfl!)))) a_nil)) (d_var (i := 7) rfl (by first | exact Or.inl (by kernel_rfl!) | exact Or.inr (Or.inl (by kernel_rfl!)) | exact Or.inr (Or.inr (by kernel_rfl!))))) (d_tup (a_cons (d_var (i := 4) rfl (by first | exact Or.inl (by kernel_rfl!) | exact Or.inr (Or.inl (by kernel_rfl!)) | exact Or.inr (Or.inr (by kernel_rfl!)))) (a_cons (d_var (i := 2) rfl (by first | exact Or.inl (by kernel_rfl!) | exact Or.inr (Or.inl (by kernel_rfl!)) | exact Or.inr (Or.inr (by kernel_rfl!)))) (a_cons (d_var (i := 4) rfl (by first | exact Or.inl (by kernel_rfl!) | exact Or.inr (Or.inl (by kernel_rfl!)) | exact Or.inr (Or.inr (by kernel_rfl!)))) a_nil))))) (a_cons (d_var (i := 7) rfl (by first | exact Or.inl (by kernel_rfl!) | exact Or.inr (Or.inl (by kernel_rfl!)) | exact Or.inr (Or.inr (by kernel_rfl!)))) a_nil)) (by decide) (by kernel_rfl!) (by kernel_rfl!)))))).pt
(s_cons (s_ret d_bl)
 s_nil)
s_nil)
 (s_cons (s_if (q_not (q_val (d_callC (ok__law_refused C) hgu (hr.mono (by decide)) (gl_of (by kernel_rfl!)) (a_cons (d_op x_addB (d_op x_addB (d_tup (a_cons (d_var (i := 4) rfl (by first | exact Or.inl (by kernel_rfl!) | exact Or.inr (Or.inl (by kernel_rfl!)) | exact Or.inr (Or.inr (by kernel_rfl!)))) a_nil)) (d_op x_mulB (d_tup (a_cons (d_var (i := 2) rfl (by first | exact Or.inl (by kernel_rfl!) | exact Or.inr (Or.inl (by kernel_rfl!)) | exact Or.inr (Or.inr (by kernel_rfl!)))) a_nil)) (d_var (i := 7) rfl (by first | exact Or.inl (by kernel_rfl!) | exact Or.inr (Or.inl (by kernel_rfl!)) | exact Or.inr (Or.inr (by kernel_rfl!)))))) (d_tup (a_cons (d_var (i := 3) rfl (by first | exact Or.inl (by kernel_rfl!) | exact Or.inr (Or.inl (by kernel_rfl!)) | exact Or.inr (Or.inr (by kernel_rfl!)))) a_nil))) (a_cons d_int a_nil)) (by decide) (by kernel_rfl!) (by kernel_rfl!))))
(s_cons (s_ret d_bl)
 s_nil)
s_nil)
 s_nil))) PassesOwn.never rfl)
 (s_cons (s_for (i_src (d_lst (a_cons d_int (a_cons d_int (a_cons (d_op x_addB d_int (d_callC (ok__law_draw C) hgu (hr.mono (by decide)) (gl_of (by kernel_rfl!)) (a_cons (d_var (i := 1) rfl (by first | exact Or.inl (by kernel_rfl!) | exact Or.inr (Or.inl (by kernel_rfl!)) | exact Or.inr (Or.inr (by kernel_rfl!)))) (a_cons d_int a_nil)) (by decide) (by kernel_rfl!) (by kernel_rfl!))) (a_cons d_int (a_cons d_int a_nil))))))) (t_name nd rfl (by first | exact Or.inl (by kernel_rfl!) | exact Or.inr (by kernel_rfl!)))
(s_cons (s_asg (d_op x_addB (d_op x_mulB (d_tup (a_cons (d_var (i := 2) rfl (by first | exact Or.inl (by kernel_rfl!) | exact Or.inr (Or.inl (by kernel_rfl!)) | exact Or.inr (Or.inr (by kernel_rfl!)))) a_nil)) (d_op x_subB (d_var (i := 5) rfl (by first | exact Or.inl (by kernel_rfl!) | exact Or.inr (Or.inl (by kernel_rfl!)) | exact Or.inr (Or.inr (by kernel_rfl!)))) d_int)) (d_tup (a_cons (d_tup (a_cons d_str (a_cons (d_op x_subB (d_var (i := 5) rfl (by first | exact Or.inl (by kernel_rfl!) | exact Or.inr (Or.inl (by kernel_rfl!)) | exact Or.inr (Or.inr (by kernel_rfl!)))) d_int) a_nil))) a_nil))) (t_name nd rfl (by first | exact Or.inl (by kernel_rfl!) | exact Or.inr (by kernel_rfl!))))
 (s_cons (s_asg (d_tup (a_cons d_str (a_cons d_str (a_cons d_int (a_cons (d_var (i := 5) rfl (by first | exact Or.inl (by kernel_rfl!) | exact Or.inr (Or.inl (by kernel_rfl!)) | exact Or.inr (Or.inr (by kernel_rfl!)))) a_nil))))) (t_name nd rfl (by first | exact Or.inl (by kernel_rfl!) | exact Or.inr (by kernel_rfl!))))
 (s_cons (s_asg (d_callC (ok__law_draw C) hgu (hr.mono (by decide)) (gl_of (by kernel_rfl!)) (a_cons (d_var (i := 1) rfl (by first | exact Or.inl (by kernel_rfl!) | exact Or.inr (Or.inl (by kernel_rfl!)) | exact Or.inr (Or.inr (by kernel_rfl!)))) (a_cons (d_var (i := 5) rfl (by first | exact Or.inl (by kernel_rfl!) | exact Or.inr (Or.inl (by kernel_rfl!)) | exact Or.inr (Or.inr (by kernel_rfl!)))) a_nil)) (by decide) (by kernel_rfl!) (by kernel_rfl!)) (t_name nd rfl (by first | exact Or.inl (by kernel_rfl!) | exact Or.inr (by kernel_rfl!))))
 (s_cons (s_if (w_or (q_cmp (x_neE hu64) (d_callC (ok__law_made C) hgu (hr.mono (by decide)) (gl_of (by kernel_rfl!)) (a_cons (d_var (i := 8) rfl (by first | exact Or.inl (by kernel_rfl!) | exact Or.inr (Or.inl (by kernel_rfl!)) | exact Or.inr (Or.inr (by kernel_rfl!)))) a_nil) (by decide) (by kernel_rfl!) (by kernel_rfl!)) (d_tup (a_cons d_str (a_cons (d_var (i := 8) rfl (by first | exact Or.inl (by kernel_rfl!) | exact Or.inr (Or.inl (by kernel_rfl!)) | exact Or.inr (Or.inr (by kernel_rfl!)))) a_nil))) (nomark _)) (w_or1 (q_not (q_val (d_callC (ok__law_refused C) hgu (hr.mono (by decide)) (gl_of (by kernel_rfl!)) (a_cons (d_op x_addB (d_slice (d_var (i := 8) rfl (by first | exact Or.inl (by kernel_rfl!) | exact Or.inr (Or.inl (by kernel_rfl!)) | exact Or.inr (Or.inr (by kernel_rfl!)))) o_none (o_some (d_un x_neg d_int))) (d_tup (a_cons (d_tup (a_cons d_str (a_cons (d_var (i := 5) rfl (by first | exact Or.inl (by kernel_rfl!) | exact Or.inr (Or.inl (by kernel_rfl!)) | exact Or.inr (Or.inr (by kernel_rfl!)))) a_nil))) a_nil))) (a_cons (d_op x_subB (d_var (i := 5) rfl (by first | exact Or.inl (by kernel_rfl!) | exact Or.inr (Or.inl (by kernel_rfl!)) | exact Or.inr (Or.inr (by kernel_rfl!)))) d_int) a_nil)) (by decide) (by kernel_rfl!) (by kernel_rfl!)))))).pt
(s_cons (s_ret d_bl)
 s_nil)
s_nil)
 (s_cons (s_if (q_not (q_val (d_callC (ok__law_refused C) hgu (hr.mono (by decide)) (gl_of (by kernel_rfl!)) (a_cons (d_op x_addB (d_op x_addB (d_slice (d_var (i := 8) rfl (by first | exact Or.inl (by kernel_rfl!) | exact Or.inr (Or.inl (by kernel_rfl!)) | exact Or.inr (Or.inr (by kernel_rfl!)))) o_none (o_some (d_var (i := 7) rfl (by first | exact Or.inl (by kernel_rfl!) | exact Or.inr (Or.inl (by kernel_rfl!)) | exact Or.inr (Or.inr (by kernel_rfl!)))))) (d_tup (a_cons (d_var (i := 9) rfl (by first | exact Or.inl (by kernel_rfl!) | exact Or.inr (Or.inl (by kernel_rfl!)) | exact Or.inr (Or.inr (by kernel_rfl!)))) a_nil))) (d_slice (d_var (i := 8) rfl (by first | exact Or.inl (by kernel_rfl!) | exact Or.inr (Or.inl (by kernel_rfl!)) | exact Or.inr (Or.inr (by kernel_rfl!)))) (o_some (d_op x_addB (d_var (i := 7) rfl (by first | exact Or.inl (by kernel_rfl!) | exact Or.inr (Or.inl (by kernel_rfl!)) | exact Or.inr (Or.inr (by kernel_rfl!)))) d_int)) o_none)) (a_cons (d_var (i := 7) rfl (by first | exact Or.inl (by kernel_rfl!) | exact Or.inr (Or.inl (by kernel_rfl!)) | exact Or.inr (Or.inr (by kernel_rfl!)))) a_nil)) (by decide) (by kernel_rfl!) (by kernel_rfl!))))
(s_cons (s_ret d_bl)
 s_nil)
s_nil)
 (s_cons (s_if (w_or (q_not (q_val (d_callC (ok__law_refused C) hgu (hr.mono (by decide)) (gl_of (by kernel_rfl!)) (a_cons (d_op x_addB (d_slice (d_var (i := 8) rfl (by first | exact Or.inl (by kernel_rfl!) | exact Or.inr (Or.inl (by kernel_rfl!)) | exact Or.inr (Or.inr (by kernel_rfl!)))) o_none (o_some (d_un x_neg d_int))) (d_tup (a_cons (d_tup (a_cons d_str (a_cons d_str (a_cons d_int a_nil)))) a_nil))) (a_cons (d_var (i := 5) rfl (by first | exact Or.inl (by kernel_rfl!) | exact Or.inr (Or.inl (by kernel_rfl!)) | exact Or.inr (Or.inr (by kernel_rfl!)))) a_nil)) (by decide) (by kernel_rfl!) (by kernel_rfl!)))) (w_or1 (q_not (q_val (d_callC (ok__law_refused C) hgu (hr.mono (by decide)) (gl_of (by kernel_rfl!)) (a_cons (d_op x_addB (d_slice (d_var (i := 8) rfl (by first | exact Or.inl (by kernel_rfl!) | exact Or.inr (Or.inl (by kernel_rfl!)) | exact Or.inr (Or.inr (by kernel_rfl!)))) o_none (o_some (d_un x_neg d_int))) (d_tup (a_cons (d_tup (a_cons d_str (a_cons d_int a_nil))) a_nil))) (a_cons (d_var (i := 5) rfl (by first | exact Or.inl (by kernel_rfl!) | exact Or.inr (Or.inl (by kernel_rfl!)) | exact Or.inr (Or.inr (by kernel_rfl!)))) a_nil)) (by decide) (by kernel_rfl!) (by kernel_rfl!)))))).pt
(s_cons (s_ret d_bl)
 s_nil)
s_nil)
 s_nil)))))) PassesOwn.never rfl)
 (s_cons (s_ret d_bl)
 s_nil)))))))))))
end
end W03
namespace W01
open PySem PySem.Spec PyProof.Rows L2 WS
def kindD : Nat → D
  | 0 => .str "register"
  | 1 => .str "given"
  | _ => .str "jump"
def kindC : Nat → D
  | 0 => .str "r"
  | 1 => .str "x"
  | _ => .str "n"
def kindsL : List (Str × List Nat) := [("let", [0, 1]), ("add", [0, 1, 1]), ("sub", [0, 1, 1]), ("half", [0, 1]), ("odd", [0, 1]), ("same", [1, 1, 2]), ("under", [1, 1, 2]), ("go", [2]), ("read", [0, 1]), ("put", [1, 1]), ("swap", [0, 1, 1, 1]), ("new", [0]), ("free", [1]), ("end", [1])]
def regC (x : Str) : Bool := decide (x.length = 1) && (decide (97 ≤ x.cps.getD 0 0) && decide (x.cps.getD 0 0 ≤ 116))
def isReg : D → Bool
  | .str x => regC x
  | _ => false
def isNum : D → Bool
  | .int i => decide (0 ≤ i) && decide (i < 1000000)
  | _ => false
def partOk (κ : Nat) (d : D) : Bool := (decide (κ ≠ 2) && isReg d) || (decide (κ ≠ 0) && isNum d)
theorem reg_mem (c : Nat) : decide (c ∈ ("abcdefghijklmnopqrst" : Str).cps.toList) = (decide (97 ≤ c) && decide (c ≤ 116)) := by
  have e : ("abcdefghijklmnopqrst" : Str).cps.toList = [97, 98, 99, 100, 101, 102, 103, 104, 105, 106, 107, 108, 109, 110, 111, 112, 113, 114, 115, 116] := by decide +kernel
  rw [e, Bool.eq_iff_iff]
  simp only [List.mem_cons, List.not_mem_nil, or_false, decide_eq_true_eq, Bool.and_eq_true]
  omega
theorem len_ok {d : D} (hw : mx d ≤ 9000) {x : Str} (e : d = .str x) : x.length ≤ sizeLine := by
  subst e
  have : x.length ≤ 9000 := hw
  rw [sizeLine_eq]; omega
theorem is_reg_ok (d : D) (k : Dk) (h : plain d = true) (hw : mx d ≤ 9000) : F_is_register [d] k = some (.bl (isReg d), k) := by
  unfold F_is_register body_is_register
  cases d <;> first | (exact absurd h Bool.false_ne_true) | skip
  case str x =>
    have hl := len_ok hw rfl
    by_cases h1 : x.length = 1
    · have hi : gIn (.str x) g_REGISTERS = some (.bl (regC x)) := by
        show (if x.length = 1 then some (D.bl (false != decide (x.cps.getD 0 0 ∈ ("abcdefghijklmnopqrst" : Str).cps.toList))) else none) = _
        rw [if_pos h1, reg_mem]
        unfold regC
        rw [decide_eq_true h1, Bool.true_and]; simp
      simp! [r_lenS hl, h1, hi]
      rfl
    · have h2 : ¬ (x.length : Int) = 1 := by omega
      have e : isReg (.str x) = false := by
        show regC x = false
        unfold regC
        rw [decide_eq_false h1, Bool.false_and]
      simp! [r_lenS hl, h2, e]
  all_goals (simp! []; try rfl)
theorem is_whole_ok (d : D) (k : Dk) (h : plain d = true) : F_is_whole [d] k = some (.bl (match d with | .int _ => true | _ => false), k) := by
  unfold F_is_whole body_is_whole
  cases d <;> first | (exact absurd h Bool.false_ne_true) | skip
  all_goals (simp! []; try rfl)
theorem is_num_ok (d : D) (k : Dk) (h : plain d = true) : F_is_number [d] k = some (.bl (isNum d), k) := by
  unfold F_is_number body_is_number
  have hw := is_whole_ok d k h
  cases d <;> first | (exact absurd h Bool.false_ne_true) | skip
  case int i =>
    by_cases h1 : 0 ≤ i
    · simp! [hw, h1, g_TOP, isNum]
    · simp! [hw, h1, g_TOP, isNum]
  all_goals (simp! [hw]; try rfl)
theorem is_part_ok {κ : Nat} (hκ : κ < 3) (d : D) (k : Dk) (h : plain d = true) (hw : mx d ≤ 9000) : F_is_part [kindD κ, d] k = some (.bl (partOk κ d), k) := by
  have h1 := is_reg_ok d k h hw
  have h2 := is_num_ok d k h
  unfold F_is_part body_is_part
  have hcases : κ = 0 ∨ κ = 1 ∨ κ = 2 := by omega
  rcases hcases with rfl | rfl | rfl
  · have e : gEqE (kindD 0) g_REGISTER = some (.bl true) := by kernel_rfl!
    simp! [e, h1]
    simp [partOk]
  · have e : gEqE (kindD 1) g_REGISTER = some (.bl false) := by kernel_rfl!
    have e2 : gEqE (kindD 1) g_GIVEN = some (.bl true) := by kernel_rfl!
    cases hn : isNum d
    · rw [hn] at h2
      simp! [e, h2, e2, h1]
      simp [partOk, hn]
    · rw [hn] at h2
      simp! [e, h2]
      simp [partOk, hn]
  · have e : gEqE (kindD 2) g_REGISTER = some (.bl false) := by kernel_rfl!
    have e2 : gEqE (kindD 2) g_GIVEN = some (.bl false) := by kernel_rfl!
    cases hn : isNum d
    · rw [hn] at h2
      simp! [e, h2, e2]
      simp [partOk, hn]
    · rw [hn] at h2
      simp! [e, h2]
      simp [partOk, hn]
theorem one_lt (a b : Nat) : decide ([a] < [b]) = decide (a < b) := by
  rw [Bool.eq_iff_iff]
  simp only [decide_eq_true_eq]
  constructor
  · intro h
    rcases List.cons_lt_cons_iff.mp h with q | ⟨_, q⟩
    · exact q
    · exact absurd q (List.not_lt_nil _)
  · exact fun h => List.cons_lt_cons_iff.mpr (.inl h)
theorem l_whole_ok (d : D) (k : Dk) (h : plain d = true) : F__law_is_whole [d] k = some (.bl (match d with | .int _ => true | _ => false), k) := by
  unfold F__law_is_whole body__law_is_whole
  cases d <;> first | (exact absurd h Bool.false_ne_true) | skip
  all_goals (simp! []; try rfl)
theorem l_part_ok {κ : Nat} (hκ : κ < 3) (d : D) (k : Dk) (h : plain d = true) (hw : mx d ≤ 9000) : F__law_is_part [kindC κ, d] k = some (.bl (partOk κ d), k) := by
  have h2 := l_whole_ok d k h
  unfold F__law_is_part body__law_is_part
  have hcases : κ = 0 ∨ κ = 1 ∨ κ = 2 := by omega
  have en : gNeE (kindC κ) (.str "n") = some (.bl (decide (κ ≠ 2))) := by
    rcases hcases with rfl | rfl | rfl <;> kernel_rfl!
  have er : gNeE (kindC κ) (.str "r") = some (.bl (decide (κ ≠ 0))) := by
    rcases hcases with rfl | rfl | rfl <;> kernel_rfl!
  cases d <;> first | (exact absurd h Bool.false_ne_true) | skip
  case str x =>
    have hl := len_ok hw rfl
    have e0 : partOk κ (.str x) = (decide (κ ≠ 2) && regC x) := by simp [partOk, isReg, isNum]
    rw [e0]
    by_cases hk : κ = 2
    · subst hk
      simp! [en]
      rfl
    · have hk' : decide (κ ≠ 2) = true := decide_eq_true hk
      rw [hk'] at en ⊢
      by_cases h1 : x.length = 1
      · have hx := one_str h1
        have el : ∀ c : Nat, ((⟨#[c]⟩ : Str).cps.toList) = [c] := fun c => rfl
        have c1 : decide (x.cps.toList < ("a" : Str).cps.toList) = decide (x.cps.getD 0 0 < 97) := by
          conv => lhs; rw [hx]
          have : ("a" : Str).cps.toList = [97] := by decide +kernel
          rw [this]
          exact one_lt _ _
        have c2 : decide (("t" : Str).cps.toList < x.cps.toList) = decide (116 < x.cps.getD 0 0) := by
          conv => lhs; rw [hx]
          have : ("t" : Str).cps.toList = [116] := by decide +kernel
          rw [this]
          exact one_lt _ _
        have er : regC x = (decide (97 ≤ x.cps.getD 0 0) && decide (x.cps.getD 0 0 ≤ 116)) := by
          unfold regC
          rw [decide_eq_true h1, Bool.true_and]
        rw [er]
        by_cases q1 : x.cps.getD 0 0 < 97
        · have q2 : ¬ 97 ≤ x.cps.getD 0 0 := by omega
          simp! [en, r_lenS hl, h1, c1, q1, q2]
        · have q2 : 97 ≤ x.cps.getD 0 0 := by omega
          by_cases q3 : 116 < x.cps.getD 0 0
          · have q4 : ¬ x.cps.getD 0 0 ≤ 116 := by omega
            simp! [en, r_lenS hl, h1, c1, c2, q1, q2, q3, q4]
          · have q4 : x.cps.getD 0 0 ≤ 116 := by omega
            simp! [en, r_lenS hl, h1, c1, c2, q1, q2, q3, q4]
      · have h3 : ¬ (x.length : Int) = 1 := by omega
        have e : regC x = false := by
          unfold regC
          rw [decide_eq_false h1, Bool.false_and]
        simp! [en, r_lenS hl, h3, e]
  case int i =>
    have e0 : partOk κ (.int i) = (decide (κ ≠ 0) && (decide (0 ≤ i) && decide (i < 1000000))) := by simp [partOk, isReg, isNum]
    rw [e0]
    by_cases hk : κ = 0
    · subst hk
      simp! [er]
      rfl
    · have hk' : decide (κ ≠ 0) = true := decide_eq_true hk
      rw [hk'] at er ⊢
      by_cases q1 : 0 ≤ i
      · have q2 : decide (i ≤ 999999) = decide (i < 1000000) := by
          rw [Bool.eq_iff_iff]; simp only [decide_eq_true_eq]; omega
        simp! [er, h2, q1, q2]
      · simp! [er, h2, q1]
  all_goals
    by_cases hk : κ = 0
    · subst hk
      have er0 : gNeE (kindC 0) (.str "r") = some (.bl false) := er
      simp! [er0]
      simp [partOk, isReg, isNum]
    · have hk' : decide (κ ≠ 0) = true := decide_eq_true hk
      rw [hk'] at er
      simp! [er, h2]
      simp [partOk, isReg, isNum]
end W01
namespace W01
open PySem PySem.Spec PyProof.Rows L2 WS
def okParts (ks : List Nat) (ps : List D) : Bool := decide (ps.length = ks.length) && (List.zipWith partOk ks ps).all id
def isRow (d : D) : Bool := match d with
  | .tup (.str w :: ps) => match kindsL.lookup w with
    | some ks => okParts ks ps
    | none => false
  | _ => false
theorem wts_tail {x : D} {r : List D} (h : mxs (x :: r) ≤ 9000) : ∀ d ∈ r, mx d ≤ 9000 := fun d hd => by
  have := mxs_mem (List.mem_cons_of_mem x hd); omega
/-- two lists, pair by pair -/
def zD (ks : List Nat) (ps : List D) : List (Nat × D) := List.zip ks ps
def zdP (f : Nat → D) (x : Nat × D) : D := .tup [f x.1, x.2]
theorem zip_f (f : Nat → D) (ks : List Nat) (ps : List D) : List.zipWith (fun x y => D.tup [x, y]) (ks.map f) ps = (zD ks ps).map (zdP f) := by
  unfold zD zdP
  rw [List.zipWith_map_left, List.map_zip_eq_zipWith]
  rfl
theorem zip_ok (ks : List Nat) (ps : List D) : List.zipWith partOk ks ps = (zD ks ps).map fun x => partOk x.1 x.2 := by
  unfold zD
  rw [List.map_zip_eq_zipWith]
  rfl
theorem kinds_lt : ∀ p ∈ kindsL, ∀ κ ∈ p.2, κ < 3 := by decide
theorem kinds_len : ∀ p ∈ kindsL, p.2.length ≤ 4 := by decide
def kindsTab : List (Str × D) := kindsL.map fun p => (p.1, .tup (p.2.map kindD))
theorem t_parts : t_PARTS = kindsTab := rfl
theorem look_map {α : Type} {β : Type} (f : α → β) (l : List (Str × α)) (s : Str) : (l.map fun p => (p.1, f p.2)).lookup s = (l.lookup s).map f := by
  induction l with
  | nil => rfl
  | cons p r ih =>
    rw [List.map_cons, List.lookup_cons, List.lookup_cons]
    cases s == p.1 with
    | true => rfl
    | false => exact ih
theorem look_parts (s : Str) : t_PARTS.lookup s = (kindsL.lookup s).map fun ks => .tup (ks.map kindD) := by
  rw [t_parts]
  exact look_map (fun ks : List Nat => D.tup (ks.map kindD)) kindsL s
theorem comp_ok {ks : List Nat} {ps : List D} {s0 s1 s2 s3 : Sl} {k : Dk} (hk : ∀ κ ∈ ks, κ < 3) (hp : plains ps = true) (hw : ∀ d ∈ ps, mx d ≤ 9000) :
    eCompGo [4, 5] (gPair (gSet 4) (gSet 5)) (eC (.bl true)) (eCallF 2 W01.F_is_part (aCons (eVar 4) (aCons (eVar 5) (aNil)))) ((zD ks ps).map (zdP kindD)) [s0, s1, s2, s3, .no, .no] k
      = some ((zD ks ps).map fun x => .bl (partOk x.1 x.2), [s0, s1, s2, s3, .no, .no], k) := by
  have hc := comp_map (vs := [4, 5]) (g := gPair (gSet 4) (gSet 5)) (tt := eC (.bl true)) (elt := eCallF 2 W01.F_is_part (aCons (eVar 4) (aCons (eVar 5) (aNil)))) (ρ := [s0, s1, s2, s3, .no, .no]) (k := k) (fun d => match d with
      | .tup [a, d] => match F_is_part [a, d] k with
        | some (b, _) => b
        | none => .non
      | _ => .non) ((zD ks ps).map (zdP kindD)) fun d hd => by
    obtain ⟨x, hx, rfl⟩ := List.mem_map.mp hd
    have h1 := List.of_mem_zip hx
    have e := is_part_ok (hk _ h1.1) x.2 k (plains_mem hp _ h1.2) (hw _ h1.2)
    refine ⟨_, _, ?r, rfl, rfl, ?a, ?b⟩
    case a =>
      simp only [zdP, e]
      simp! [e]
      rfl
    case b => rfl
  rw [hc, List.map_map]
  congr 2
  refine List.map_congr_left fun x hx => ?_
  have h1 := List.of_mem_zip hx
  have e := is_part_ok (hk _ h1.1) x.2 k (plains_mem hp _ h1.2) (hw _ h1.2)
  simp only [Function.comp, zdP, e]
theorem ev_lookup {s : Str} {ks : List Nat} (h : kindsL.lookup s = some ks) : (∀ κ ∈ ks, κ < 3) ∧ ks.length ≤ 4 := ⟨kinds_lt _ (lookup_mem h), kinds_len _ (lookup_mem h)⟩
theorem is_row_ok (d : D) (k : Dk) (h : plain d = true) (hw : mx d ≤ 9000) : F_is_row [d] k = some (.bl (isRow d), k) := by
  unfold F_is_row body_is_row
  cases d <;> first | (exact absurd h Bool.false_ne_true) | skip
  case tup xs =>
    cases xs with
    | nil => simp! [List.isEmpty_nil]; rfl
    | cons x r =>
      have hr : plains (x :: r) = true := h
      have hx := plains_mem hr x (by simp)
      have hws : mxs (x :: r) ≤ 9000 := mxs_le.mpr (mx_tup.mp hw).2
      cases x <;> first | (exact absurd hx Bool.false_ne_true) | skip
      case str w =>
        have hp : plains r = true := by unfold plains at hr; rw [Bool.and_eq_true] at hr; exact hr.2
        have hlen : r.length + 1 ≤ 9000 := (mx_tup.mp hw).1
        have hrl : r.length ≤ 10000 := by omega
        have ht : gStar (gSet 1) (gSet 2) (.tup (.str w :: r)) [.val (.tup (.str w :: r)), .no, .no, .no, .no, .no] = some [.val (.tup (.str w :: r)), .val (.str w), .val (.lst r), .no, .no, .no] := by
          unfold gStar
          simp only [hrl, if_true]
          rfl
        have hin : gTbIn true t_PARTS (.str w) = some (.bl (!(kindsL.lookup w).isSome)) := by
          show some (D.bl (true != (t_PARTS.lookup w).isSome)) = _
          rw [look_parts]
          cases kindsL.lookup w <;> rfl
        cases e : kindsL.lookup w with
        | none =>
          rw [e] at hin
          have e2 : isRow (.tup (.str w :: r)) = false := by
            show (match kindsL.lookup w with | some ks => okParts ks r | none => false) = false
            rw [e]
          rw [e2]
          simp! [List.isEmpty_cons, hin, Option.isSome_none]
        | some ks =>
          rw [e] at hin
          obtain ⟨hκ, h4⟩ := ev_lookup e
          have hg : gTb t_PARTS (.str w) = some (.tup (ks.map kindD)) := by
            show t_PARTS.lookup w = _
            rw [look_parts, e]; rfl
          have e2 : isRow (.tup (.str w :: r)) = okParts ks r := by
            show (match kindsL.lookup w with | some ks => okParts ks r | none => false) = _
            rw [e]
          rw [e2]
          by_cases h1 : r.length = ks.length
          · have hz : gZipS [.tup (ks.map kindD), .lst r] = some ((zD ks r).map (zdP kindD)) := by
              unfold gZipS dSq
              simp only [Option.bind_some, List.length_map]
              rw [if_pos h1.symm, zip_f]
            have hl : (zD ks r).length < sizeLine := by
              unfold zD
              rw [List.length_zip, sizeLine_eq]; omega
            have ha : gAll [.lst ((zD ks r).map fun x => D.bl (partOk x.1 x.2))] = some (.bl ((List.zipWith partOk ks r).all id)) := by
              rw [zip_ok]
              exact gAll_map (fun x : Nat × D => partOk x.1 x.2) _
            simp! [List.isEmpty_cons, hin, Option.isSome_some, ht, hg, List.length_map, h1, hz, hl, comp_ok hκ hp (wts_tail hws), ha, okParts]
          · have h2 : ¬ (r.length : Int) = (ks.length : Int) := fun z => h1 (by omega)
            simp! [List.isEmpty_cons, hin, Option.isSome_some, ht, hg, List.length_map, h2, okParts, h1]
      all_goals (simp! [List.isEmpty_cons]; try rfl)
  all_goals (simp! []; try rfl)
end W01
namespace W01
open PySem PySem.Spec PyProof.Rows L2 WS
def codeK : Nat → Nat
  | 0 => 114
  | 1 => 120
  | _ => 110
def kindT (ks : List Nat) : Str := ⟨(ks.map codeK).toArray⟩
theorem kindC_is (κ : Nat) : kindC κ = .str ⟨#[codeK κ]⟩ := by
  match κ with
  | 0 => kernel_rfl!
  | 1 => kernel_rfl!
  | n + 2 => exact (by kernel_rfl! : D.str "n" = .str ⟨#[110]⟩)
theorem signs_kind (ks : List Nat) : signsD (kindT ks) = ks.map kindC := by
  unfold signsD kindT
  show ((ks.map codeK).toArray.toList).map _ = _
  rw [List.toList_toArray, List.map_map]
  exact List.map_congr_left fun κ _ => (kindC_is κ).symm
theorem kindT_len (ks : List Nat) : (kindT ks).length = ks.length := by
  show (ks.map codeK).toArray.size = _
  simp
def kKeys : List Key := kindsL.map fun p => .inr p.1
def kVals : List D := kindsL.map fun p => .str (kindT p.2)
theorem l_kinds_ok (k : Dk) : F__law_kinds [] k = some (.dct kKeys kVals, k) := by kernel_rfl!
theorem lk_map {α : Type} (f : α → D) (s : Str) : ∀ l : List (Str × α), lkD (l.map fun p => Sum.inr p.1) (l.map fun p => f p.2) (.inr s) = (l.lookup s).map f
  | [] => rfl
  | p :: r => by
    simp only [List.map_cons, lkD]
    rw [List.lookup_cons]
    by_cases q : p.1 = s
    · subst q
      rw [if_pos rfl, beq_self_eq_true]; rfl
    · rw [if_neg (fun z => q (by injection z)), show (s == p.1) = false from beq_eq_false_iff_ne.mpr fun z => q z.symm]
      exact lk_map f s r
theorem lk_kinds (s : Str) : lkD kKeys kVals (.inr s) = (kindsL.lookup s).map fun ks => .str (kindT ks) := lk_map (fun ks => D.str (kindT ks)) s kindsL
theorem get_kinds {s : Str} {ks : List Nat} (h : kindsL.lookup s = some ks) : gGet (.dct kKeys kVals) (.str s) = some (.str (kindT ks)) := by
  show lkD kKeys kVals (.inr s) = _
  rw [lk_kinds, h]; rfl
theorem nin_kinds (s : Str) : gInDn true (.str s) (.dct kKeys kVals) = some (.bl (!(kindsL.lookup s).isSome)) := by
  show some (D.bl (true != (lkD kKeys kVals (.inr s)).isSome)) = _
  rw [lk_kinds]
  cases kindsL.lookup s <;> rfl
theorem lcomp_ok {ks : List Nat} {ps : List D} {s0 s1 : Sl} {k : Dk} (hk : ∀ κ ∈ ks, κ < 3) (hp : plains ps = true) (hw : ∀ d ∈ ps, mx d ≤ 9000) :
    eCompGo [2, 3] (gPair (gSet 2) (gSet 3)) (eNot (eCallF 2 W01.F__law_is_part (aCons (eVar 2) (aCons (eVar 3) (aNil))))) (eVar 2) ((zD ks ps).map (zdP kindC)) [s0, s1, .no, .no] k
      = some (((zD ks ps).filter fun x => !partOk x.1 x.2).map (fun x => kindC x.1), [s0, s1, .no, .no], k) := by
  have hc := comp_pure (vs := [2, 3]) (g := gPair (gSet 2) (gSet 3)) (tt := eNot (eCallF 2 W01.F__law_is_part (aCons (eVar 2) (aCons (eVar 3) (aNil))))) (elt := eVar 2) (ρ := [s0, s1, .no, .no]) (k := k)
    (fun d => match d with
      | .tup [a, d] => match F__law_is_part [a, d] k with
        | some (.bl b, _) => !b
        | _ => false
      | _ => false)
    (fun d => match d with
      | .tup [a, d] => a
      | _ => .non) ((zD ks ps).map (zdP kindC)) fun d hd => by
    obtain ⟨x, hx, rfl⟩ := List.mem_map.mp hd
    have h1 := List.of_mem_zip hx
    have e := l_part_ok (hk _ h1.1) x.2 k (plains_mem hp _ h1.2) (hw _ h1.2)
    refine ⟨_, [s0, s1, .val (kindC x.1), .val x.2], rfl, ?a, fun _ => ⟨_, rfl, ?b⟩, fun _ => ?c⟩
    case a =>
      simp only [zdP, e]
      simp! [e]
    case b => rfl
    case c => rfl
  rw [hc, List.filter_map, List.map_map]
  congr 3
  refine List.filter_congr fun x hx => ?_
  have h1 := List.of_mem_zip hx
  have e := l_part_ok (hk _ h1.1) x.2 k (plains_mem hp _ h1.2) (hw _ h1.2)
  simp only [Function.comp, zdP, e]
theorem filter_none {ks : List Nat} {ps : List D} : (((zD ks ps).filter fun x => !partOk x.1 x.2).map (fun x => kindC x.1)).isEmpty = (List.zipWith partOk ks ps).all id := by
  rw [zip_ok, Bool.eq_iff_iff, List.isEmpty_iff, List.map_eq_nil_iff, List.filter_eq_nil_iff, List.all_eq_true]
  constructor
  · intro h b hb
    obtain ⟨x, hx, rfl⟩ := List.mem_map.mp hb
    simpa using h x hx
  · intro h x hx
    have := h _ (List.mem_map.mpr ⟨x, hx, rfl⟩)
    simpa using this
theorem lis_row_ok (d : D) (k : Dk) (h : plain d = true) (hw : mx d ≤ 9000) : F__law_is_row [d] k = some (.bl (isRow d), k) := by
  unfold F__law_is_row body__law_is_row
  have hks := l_kinds_ok k
  cases d <;> first | (exact absurd h Bool.false_ne_true) | skip
  case tup xs =>
    cases xs with
    | nil => simp! [hks, List.length_nil, Int.natCast_zero]; rfl
    | cons x r =>
      have hr : plains (x :: r) = true := h
      have hx := plains_mem hr x (by simp)
      have hws : mxs (x :: r) ≤ 9000 := mxs_le.mpr (mx_tup.mp hw).2
      have hn : ¬ ((r.length + 1 : Nat) : Int) = 0 := by omega
      cases x <;> first | (exact absurd hx Bool.false_ne_true) | skip
      case str w =>
        have hp : plains r = true := by unfold plains at hr; rw [Bool.and_eq_true] at hr; exact hr.2
        have hlen : r.length + 1 ≤ 9000 := (mx_tup.mp hw).1
        have hin := nin_kinds w
        cases e : kindsL.lookup w with
        | none =>
          rw [e] at hin
          have e2 : isRow (.tup (.str w :: r)) = false := by
            show (match kindsL.lookup w with | some ks => okParts ks r | none => false) = false
            rw [e]
          rw [e2]
          simp! [hks, hn, hin, Option.isSome_none]
        | some ks =>
          rw [e] at hin
          obtain ⟨hκ, h4⟩ := ev_lookup e
          have hg := get_kinds e
          have e2 : isRow (.tup (.str w :: r)) = okParts ks r := by
            show (match kindsL.lookup w with | some ks => okParts ks r | none => false) = _
            rw [e]
          have hln : gLen [.str (kindT ks)] = some (.int ks.length) := by
            rw [r_lenS (by rw [kindT_len, sizeLine_eq]; omega), kindT_len]
          rw [e2]
          by_cases h1 : r.length = ks.length
          · have ho : okParts ks r = (List.zipWith partOk ks r).all id := by unfold okParts; rw [decide_eq_true h1, Bool.true_and]
            have h3 : ((r.length + 1 : Nat) : Int) = 1 + (ks.length : Int) := by omega
            have hsl : gSl (.tup (.str w :: r)) (some 1) none = some (.tup r) := by rw [sl_from1]; rfl
            have hz : gZipG [.str (kindT ks), .tup r] = some ((zD ks r).map (zdP kindC)) := by
              unfold gZipG srcD
              simp only [Option.bind_some, Option.map_some]
              rw [signs_kind, zip_f]
            have hl : (zD ks r).length < sizeLine := by
              unfold zD
              rw [List.length_zip, sizeLine_eq]; omega
            have hn2 : ¬ 1 + (ks.length : Int) = 0 := by omega
            simp! [hks, hn2, hin, Option.isSome_some, hg, hln, h3, hsl, hz, hl, List.length_map, lcomp_ok hκ hp (wts_tail hws), filter_none, ho]
          · have h2 : ¬ ((r.length + 1 : Nat) : Int) = 1 + (ks.length : Int) := fun z => h1 (by omega)
            simp! [hks, hn, hin, Option.isSome_some, hg, hln, h2, okParts, h1]
      all_goals (simp! [hks, hn]; try rfl)
  all_goals (simp! [hks]; try rfl)
end W01
namespace W01
open PySem PySem.Spec PyProof.Rows L2 WS
theorem pow6 : gPow (.int 10) (.int 6) = some (.int 1000000) := r_pow (i := 10) (n := 6) ⟨by omega, by omega⟩
theorem number_ok {n : Nat} {k : Dk} (h : DkOk n k) (hn : n < 100000000000) : ∃ i k', F__law_number [.deck] k = some (.int i, k') ∧ 0 ≤ i ∧ i < 1000000 ∧ DkOk (n + 5) k' := by
  obtain ⟨w, k1, e1, w1, w2, d1⟩ := draw_ok h 4 ⟨by omega, by omega⟩ (by omega)
  obtain ⟨a, k2, e2, a1, a2, d2⟩ := draw_ok d1 10 ⟨by omega, by omega⟩ (by omega)
  obtain ⟨b, k3, e3, b1, b2, d3⟩ := draw_ok d2 3 ⟨by omega, by omega⟩ (by omega)
  obtain ⟨c, k4, e4, c1, c2, d4⟩ := draw_ok d3 1000000 ⟨by omega, by omega⟩ (by omega)
  obtain ⟨d, k5, e5, q1, q2, d5⟩ := draw_ok d4 201 ⟨by omega, by omega⟩ (by omega)
  obtain ⟨z, e6, i, rfl, z1, z2⟩ := pick_at (xs := [.int a, .int (999999 - b), .int c, .int d]) (P := fun z => ∃ i : Int, z = .int i ∧ 0 ≤ i ∧ i < 1000000) (by
    intro z hz
    simp only [List.mem_cons, List.not_mem_nil, or_false] at hz
    rcases hz with rfl | rfl | rfl | rfl
    · exact ⟨_, rfl, by omega, by omega⟩
    · exact ⟨_, rfl, by omega, by omega⟩
    · exact ⟨_, rfl, by omega, by omega⟩
    · exact ⟨_, rfl, by omega, by omega⟩) w1 (by simpa using w2)
  refine ⟨i, k5, ?_, z1, z2, d5⟩
  unfold F__law_number body__law_number
  simp! [e1, e2, e3, pow6, e4, e5, e6]
/-- a part that was drawn -/
structure PartIs (m : Int) (κ : Nat) (d : D) : Prop where
  ok : partOk κ d = true
  j : κ = 2 → ∃ i : Int, d = .int i ∧ i < m
  b : Bd 1000000 1 0 1 d
  s : seqy d = true
theorem letter_is {i : Int} (h0 : 0 ≤ i) (h1 : i < 20) : ∃ c, gIx (.str "abcdefghijklmnopqrst") (.int i) = some (.str ⟨#[c]⟩) ∧ 97 ≤ c ∧ c ≤ 116 := by
  have e : ("abcdefghijklmnopqrst" : Str).cps.toList = [97, 98, 99, 100, 101, 102, 103, 104, 105, 106, 107, 108, 109, 110, 111, 112, 113, 114, 115, 116] := by decide +kernel
  have hl : ("abcdefghijklmnopqrst" : Str).length = 20 := by decide +kernel
  obtain ⟨j, rfl⟩ := Int.eq_ofNat_of_zero_le h0
  have hj : j < 20 := by omega
  have hc : ∃ c, ("abcdefghijklmnopqrst" : Str).cps.toList[j]? = some c ∧ 97 ≤ c ∧ c ≤ 116 := by
    rw [e]
    have : ∀ j : Nat, j < 20 → ∃ c, ([97, 98, 99, 100, 101, 102, 103, 104, 105, 106, 107, 108, 109, 110, 111, 112, 113, 114, 115, 116] : List Nat)[j]? = some c ∧ 97 ≤ c ∧ c ≤ 116 := by
      intro j hj
      have hlen : j < ([97, 98, 99, 100, 101, 102, 103, 104, 105, 106, 107, 108, 109, 110, 111, 112, 113, 114, 115, 116] : List Nat).length := by simpa using hj
      refine ⟨_, List.getElem?_eq_getElem hlen, ?_⟩
      have hm := List.getElem_mem hlen
      simp only [List.mem_cons, List.not_mem_nil, or_false] at hm
      omega
    exact this j hj
  obtain ⟨c, hc1, hc2, hc3⟩ := hc
  refine ⟨c, ?_, hc2, hc3⟩
  show (if ("abcdefghijklmnopqrst" : Str).length ≤ sizeLine then (L2.atI ("abcdefghijklmnopqrst" : Str).cps.toList (j : Int)).map fun c => D.str ⟨#[c]⟩ else none) = _
  rw [if_pos (by rw [hl, sizeLine_eq]; omega), WS.atI_nat, hc1]; rfl
theorem asc1 {c : Nat} (h : c < 128) : asc ⟨#[c]⟩ = true := by
  rw [asc_iff]
  intro c' h'
  have : c' = c := by simpa using h'
  omega
theorem letter_part {c : Nat} (h0 : 97 ≤ c) (h1 : c ≤ 116) (m : Int) {κ : Nat} (hκ : κ ≠ 2) : PartIs m κ (.str ⟨#[c]⟩) := by
  have hr : regC ⟨#[c]⟩ = true := by
    show (decide ((1 : Nat) = 1) && (decide (97 ≤ c) && decide (c ≤ 116))) = true
    rw [decide_eq_true h0, decide_eq_true h1]; rfl
  exact ⟨by simp [partOk, isReg, hr, hκ], fun z => absurd z hκ, bd_str (asc1 (by omega)) (show (1 : Nat) ≤ 1 by omega) (show (1 : Nat) ≤ 1 by omega), asc1 (by omega)⟩
theorem letter_ok {i : Int} (h0 : 0 ≤ i) (h1 : i < 20) (m : Int) {κ : Nat} (hκ : κ ≠ 2) : ∃ d, gIx (.str "abcdefghijklmnopqrst") (.int i) = some d ∧ PartIs m κ d := by
  obtain ⟨c, e, h2, h3⟩ := letter_is h0 h1
  exact ⟨_, e, letter_part h2 h3 m hκ⟩
theorem int_part {i m : Int} (h0 : 0 ≤ i) (h1 : i < 1000000) {κ : Nat} (hκ : κ ≠ 0) (h2 : κ = 2 → i < m) : PartIs m κ (.int i) :=
  ⟨by simp [partOk, isReg, isNum, h0, h1, hκ], fun z => ⟨i, rfl, h2 z⟩, bd_int (by omega), rfl⟩
theorem part_ok {n : Nat} {k : Dk} (h : DkOk n k) (hn : n < 10000000000) {κ : Nat} (hκ : κ < 3) {m : Int} (hm : 0 < m ∧ m ≤ 1000000) : ∃ d k', F__law_part [.deck, kindC κ, .int m] k = some (d, k') ∧ PartIs m κ d ∧ DkOk (n + 7) k' := by
  unfold F__law_part body__law_part
  have hcases : κ = 0 ∨ κ = 1 ∨ κ = 2 := by omega
  rcases hcases with rfl | rfl | rfl
  · obtain ⟨i, k2, e2, i1, i2, d2⟩ := draw_ok h 20 ⟨by omega, by omega⟩ (by omega)
    obtain ⟨d, e3, hd⟩ := letter_ok i1 i2 m (κ := 0) (by omega)
    have q1 : gEqE (kindC 0) (.str "n") = some (.bl false) := by kernel_rfl!
    have q2 : gEqE (kindC 0) (.str "r") = some (.bl true) := by kernel_rfl!
    exact ⟨d, k2, by simp! [q1, q2, e2, e3], hd, d2.mono (by omega)⟩
  · obtain ⟨w, k1, e1, w1, w2, d1⟩ := draw_ok h 2 ⟨by omega, by omega⟩ (by omega)
    have q1 : gEqE (kindC 1) (.str "n") = some (.bl false) := by kernel_rfl!
    have q2 : gEqE (kindC 1) (.str "r") = some (.bl false) := by kernel_rfl!
    by_cases c : w = 1
    · obtain ⟨i, k2, e2, i1, i2, d2⟩ := draw_ok d1 20 ⟨by omega, by omega⟩ (by omega)
      obtain ⟨d, e3, hd⟩ := letter_ok i1 i2 m (κ := 1) (by omega)
      exact ⟨d, k2, by simp! [q1, q2, e1, c, e2, e3], hd, d2.mono (by omega)⟩
    · obtain ⟨i, k2, e2, i1, i2, d2⟩ := number_ok d1 (by omega)
      exact ⟨.int i, k2, by simp! [q1, q2, e1, c, e2], int_part i1 i2 (by omega) (by omega), d2.mono (by omega)⟩
  · obtain ⟨i, k2, e2, i1, i2, d2⟩ := draw_ok h m ⟨by omega, by omega⟩ (by omega)
    have q1 : gEqE (kindC 2) (.str "n") = some (.bl true) := by kernel_rfl!
    exact ⟨.int i, k2, by simp! [q1, e2], int_part i1 (by omega) (by omega) (fun _ => i2), d2.mono (by omega)⟩
def wordsL : List Str := ["add", "end", "free", "go", "half", "let", "new", "odd", "put", "read", "same", "sub", "swap", "under"]
theorem sorted_ok : gSortedE [.dct kKeys kVals] = some (.lst (wordsL.map .str)) := by
  have e1 : strKeys kKeys = some (kindsL.map (·.1)) := by kernel_rfl!
  show ((strKeys kKeys).bind fun is => if is.length < 64 then some (D.lst ((sortS is).map .str)) else none) = _
  rw [e1, Option.bind_some, if_pos (by decide)]
  have e2 : wordsL = sortS (kindsL.map (·.1)) := sortS_uniq (by decide +kernel) (by kernel_rfl!)
  rw [← e2]
theorem words_in : ∀ w ∈ wordsL, ∃ ks, kindsL.lookup w = some ks := by
  have : (wordsL.all fun w => (kindsL.lookup w).isSome) = true := by decide +kernel
  intro w hw
  exact Option.isSome_iff_exists.mp (List.all_eq_true.mp this w hw)
theorem words_asc : ∀ w ∈ wordsL, asc w = true ∧ w.length ≤ 10 := by
  have : (wordsL.all fun w => asc w && decide (w.length ≤ 10)) = true := by decide +kernel
  intro w hw
  have := List.all_eq_true.mp this w hw
  simpa using this
/-- goes on where it may -/
def jmp (m : Int) (ks : List Nat) (ps : List D) : Bool := !ks.contains 2 || (match ps.getLast? with | some (.int i) => decide (i < m) | _ => false)
def jmpD (m : Int) (d : D) : Bool := match d with
  | .tup (.str w :: ps) => match kindsL.lookup w with
    | some ks => jmp m ks ps
    | none => false
  | _ => false
def rowOf (m : Int) (d : D) : Bool := isRow d && jmpD m d
/-- a row that was drawn -/
structure RowIs (m : Int) (d : D) : Prop where
  ok : rowOf m d = true
  b : Bd 1000000 30 1 10 d
  s : seqy d = true
theorem RowIs.row {m : Int} {d : D} (h : RowIs m d) : isRow d = true := by
  have := h.ok
  unfold rowOf at this
  exact (Bool.and_eq_true_iff.mp this).1
theorem all2_ok {m : Int} {ks : List Nat} {es : List D} (h : All2 (fun a e => ∃ κ, κ < 3 ∧ a = kindC κ ∧ PartIs m κ e) (ks.map kindC) es) (hk : ∀ κ ∈ ks, κ < 3) : All2 (PartIs m) ks es := by
  induction ks generalizing es with
  | nil => cases h; exact .nil
  | cons κ r ih =>
    rw [List.map_cons] at h
    cases h with
    | cons h t =>
      obtain ⟨κ', h1, h2, h3⟩ := h
      have hκ : κ' = κ := by
        have h4 := hk κ (by simp)
        have c1 : κ = 0 ∨ κ = 1 ∨ κ = 2 := by omega
        have c2 : κ' = 0 ∨ κ' = 1 ∨ κ' = 2 := by omega
        have key : ∀ a b : Nat, (a = 0 ∨ a = 1 ∨ a = 2) → (b = 0 ∨ b = 1 ∨ b = 2) → codeK a = codeK b → a = b := by
          intro a b ha hb e
          rcases ha with rfl | rfl | rfl <;> rcases hb with rfl | rfl | rfl <;> first | rfl | (exact absurd e (by decide))
        refine key κ' κ c2 c1 ?_
        rw [kindC_is, kindC_is] at h2
        injection h2 with h2
        injection h2 with h2
        simpa using h2.symm
      subst hκ
      exact .cons h3 (ih t fun x hx => hk x (by simp [hx]))
theorem last_kind : ∀ p ∈ kindsL, p.2.contains 2 = true → p.2.getLast? = some 2 := by decide
theorem all2_last {m : Int} {ks : List Nat} {es : List D} (h : All2 (PartIs m) ks es) (hl : ks.getLast? = some 2) : ∃ i : Int, es.getLast? = some (.int i) ∧ i < m := by
  induction h with
  | nil => cases hl
  | @cons κ e r es h t ih =>
    cases t with
    | nil =>
      obtain ⟨i, rfl, hi⟩ := h.j (by simpa using hl)
      exact ⟨i, rfl, hi⟩
    | @cons κ' e' r' es' h' t' =>
      rw [List.getLast?_cons_cons] at hl ⊢
      exact ih hl
theorem all2_parts {m : Int} {ks : List Nat} {es : List D} (h : All2 (PartIs m) ks es) : okParts ks es = true ∧ (∀ d ∈ es, Bd 1000000 1 0 1 d) ∧ seqys es = true ∧ es.length = ks.length := by
  unfold okParts
  induction h with
  | nil => exact ⟨rfl, fun d hd => by simp at hd, rfl, rfl⟩
  | @cons κ e r es h t ih =>
    obtain ⟨q1, q2, q3, q4⟩ := ih
    rw [Bool.and_eq_true, decide_eq_true_eq] at q1
    refine ⟨?_, ?_, ?_, ?_⟩
    · simp only [List.length_cons, List.zipWith_cons_cons, List.all_cons, id, h.ok, Bool.true_and, Bool.and_eq_true, decide_eq_true_eq]
      exact ⟨by omega, q1.2⟩
    · intro d hd
      rcases List.mem_cons.mp hd with e | hd
      · subst e; exact h.b
      · exact q2 d hd
    · simp only [seqys, h.s, q3, Bool.and_self]
    · simp [q4]
/-- a row of its parts -/
theorem row_is {m : Int} {s : Str} {ks : List Nat} {es : List D} (hs : kindsL.lookup s = some ks) (h : All2 (PartIs m) ks es) (ha : asc s = true) (hl : s.length ≤ 10) : RowIs m (.tup (.str s :: es)) := by
  obtain ⟨p1, p2, p3, p4⟩ := all2_parts h
  obtain ⟨hκ, h4⟩ := ev_lookup hs
  have hb : bks es ≤ 2 * es.length := bks_le fun d hd => (p2 d hd).w
  refine ⟨?_, bd_tup (P := 0) ?_ ?_ ?_, ?_⟩
  · unfold rowOf isRow jmpD
    simp only [hs, p1, Bool.true_and]
    unfold jmp
    cases hc : ks.contains 2 with
    | false => rfl
    | true =>
      obtain ⟨i, hi, him⟩ := all2_last h (last_kind _ (lookup_mem hs) hc)
      simp only [hi, decide_eq_true him]; rfl
  · intro d hd
    rcases List.mem_cons.mp hd with e | hd
    · subst e; exact bd_str ha (by omega) hl
    · exact (p2 d hd).mono (by omega) (by omega) (by omega) (by omega)
  · simp only [bks, bk]; omega
  · simp only [List.length_cons]; omega
  · simp only [seqy, seqys, ha, p3, Bool.and_self]
theorem row_ok {n : Nat} {k : Dk} (h : DkOk n k) (hn : n < 1000000000) {m : Int} (hm : 0 < m ∧ m ≤ 1000000) : ∃ d k', F__law_row [.deck, .int m] k = some (d, k') ∧ RowIs m d ∧ DkOk (n + 30) k' := by
  obtain ⟨w, k1, e1, w1, w2, d1⟩ := draw_ok h 14 ⟨by omega, by omega⟩ (by omega)
  obtain ⟨z, e2, s, hs, rfl⟩ := pick_at (xs := wordsL.map .str) (P := fun z => ∃ s, s ∈ wordsL ∧ z = .str s) (fun d hd => by
    obtain ⟨s, hs, rfl⟩ := List.mem_map.mp hd
    exact ⟨s, hs, rfl⟩) w1 (by show w < 14; exact w2)
  obtain ⟨ks, hks⟩ := words_in s hs
  obtain ⟨hκ, h4⟩ := ev_lookup hks
  have hg := get_kinds hks
  have hkd := l_kinds_ok k
  obtain ⟨es, k', q1, q2, q3⟩ := comp_runN (vs := [4]) (g := gSet 4) (tt := eC (.bl true)) (elt := eCallF 3 W01.F__law_part (aCons (eVar 0) (aCons (eVar 4) (aCons (eVar 1) (aNil))))) (ρ := [.val .deck, .val (.int m), .val (.dct kKeys kVals), .val (.str s), .no])
    (fun i k => DkOk (n + 1 + 7 * i) k) (fun a e => ∃ κ, κ < 3 ∧ a = kindC κ ∧ PartIs m κ e) (ks.map kindC) 0 k1 d1 (fun i d hd k hI => by
      have hi : i < ks.length := by
        have := (List.getElem?_eq_some_iff.mp hd).1
        simpa using this
      rw [List.getElem?_map] at hd
      obtain ⟨κ, hκi, rfl⟩ := Option.map_eq_some_iff.mp hd
      have hk := hκ κ (List.mem_of_getElem? hκi)
      obtain ⟨e, k2, e3, hp, d2⟩ := part_ok hI (by omega) hk hm
      exact ⟨_, _, [.val .deck, .val (.int m), .val (.dct kKeys kVals), .val (.str s), .val (kindC κ)], e, k2, rfl, rfl, by simp! [e3], rfl, ⟨κ, hk, rfl, hp⟩, d2.mono (by omega)⟩)
  have hA := all2_ok q2 hκ
  obtain ⟨p1, p2, p3, p4⟩ := all2_parts hA
  have hlen : es.length ≤ 4 := by omega
  have g1 : gAddB (.tup [.str s]) (.tup es) = some (.tup (.str s :: es)) := r_addT (a := [.str s]) (by simp; omega)
  obtain ⟨w1', w2'⟩ := words_asc s hs
  refine ⟨.tup (.str s :: es), k', ?_, row_is hks hA w1' w2', q3.mono (by rw [List.length_map]; omega)⟩
  unfold F__law_row body__law_row
  have hl : (ks.map kindC).length < sizeLine := by rw [List.length_map, sizeLine_eq]; omega
  rw [List.length_map] at hl
  simp! [hkd, sorted_ok, e1, e2, hg, signs_kind, hl, List.length_map, q1, g1]
end W01
namespace WS
open PySem PySem.Spec PyProof.Rows L2
theorem atI_last {α : Type} {l : List α} : L2.atI l (-1) = l.getLast? := by
  unfold L2.atI L2.ixN
  cases l with
  | nil => rfl
  | cons x r =>
    rw [if_neg (by decide)]
    rw [if_pos (by simp only [List.length_cons]; omega)]
    rw [Option.bind_some, List.getLast?_eq_getElem?]
    congr 1
    simp only [List.length_cons]; omega
theorem ix_last {xs : List D} : gIx (.tup xs) (.int (-1)) = xs.getLast? := atI_last
theorem ix_head {x : D} {xs : List D} : gIx (.tup (x :: xs)) (.int 0) = some x := ix_tup (n := 0)
end WS
namespace W02
open PySem PySem.Spec PyProof.Rows L2 WS W01
theorem jump_in : ∀ p ∈ kindsL, gIn g_JUMP (.tup (p.2.map kindD)) = some (.bl (p.2.contains 2)) := by
  have e : kindsL.map (fun p => gIn g_JUMP (.tup (p.2.map kindD))) = kindsL.map (fun p => some (.bl (p.2.contains 2))) := by kernel_rfl!
  exact List.map_inj_left.mp e
theorem n_in : ∀ p ∈ kindsL, gIn (.str "n") (.str (kindT p.2)) = some (.bl (p.2.contains 2)) := by
  have e : kindsL.map (fun p => gIn (.str "n") (.str (kindT p.2))) = kindsL.map (fun p => some (.bl (p.2.contains 2))) := by kernel_rfl!
  exact List.map_inj_left.mp e
/-- where a row may go on -/
def jumpV (d : D) : D := match d with
  | .tup (.str w :: ps) => match kindsL.lookup w with
    | some ks => if ks.contains 2 then ps.getLastD .non else .non
    | none => .non
  | _ => .non
theorem isRow_cases {d : D} (h : isRow d = true) : ∃ w ps ks, d = .tup (.str w :: ps) ∧ kindsL.lookup w = some ks ∧ okParts ks ps = true := by
  cases d with
  | tup xs =>
    cases xs with
    | nil => cases h
    | cons x r =>
      cases x with
      | str w =>
        have h' : (match kindsL.lookup w with | some ks => okParts ks r | none => false) = true := h
        cases e : kindsL.lookup w with
        | none => rw [e] at h'; cases h'
        | some ks => rw [e] at h'; exact ⟨w, r, ks, rfl, e, h'⟩
      | _ => cases h
  | _ => cases h
theorem okParts_last : ∀ {ks : List Nat} {ps : List D}, okParts ks ps = true → ks.getLast? = some 2 → ∃ i : Int, ps.getLast? = some (.int i)
  | [], ps, _, h => by cases h
  | κ :: ks, [], h, _ => by
    unfold okParts at h
    simp at h
  | [κ], [p], h, hl => by
    have : κ = 2 := by simpa using hl
    subst this
    have hp : partOk 2 p = true := by simpa [okParts] using h
    unfold partOk isNum at hp
    cases p with
    | int i => exact ⟨i, rfl⟩
    | _ => simp at hp
  | [κ], p :: p' :: ps, h, _ => by
    unfold okParts at h
    simp at h
  | κ :: κ' :: ks, [p], h, _ => by
    unfold okParts at h
    simp at h
  | κ :: κ' :: ks, p :: p' :: ps, h, hl => by
    have h' : okParts (κ' :: ks) (p' :: ps) = true := by
      unfold okParts at h ⊢
      simp only [List.length_cons, List.zipWith_cons_cons, List.all_cons, id, Bool.and_eq_true, decide_eq_true_eq] at h ⊢
      exact ⟨by omega, h.2.2⟩
    obtain ⟨i, e⟩ := okParts_last h' (by rwa [List.getLast?_cons_cons] at hl)
    exact ⟨i, by rw [List.getLast?_cons_cons]; exact e⟩
/-- the parts of a row that goes on -/
theorem jump_parts {w : Str} {ks : List Nat} {ps : List D} (hk : kindsL.lookup w = some ks) (ho : okParts ks ps = true) (hc : ks.contains 2 = true) : ∃ i : Int, ps.getLast? = some (.int i) :=
  okParts_last ho (last_kind _ (lookup_mem hk) hc)
theorem last_cons {x : D} {ps : List D} {d : D} (h : ps.getLast? = some d) : (x :: ps).getLast? = some d := by
  cases ps with
  | nil => cases h
  | cons y r => rw [List.getLast?_cons_cons]; exact h
theorem jump_ok {d : D} (h : isRow d = true) (k : Dk) : ∃ v, F_jump_of [d] k = some (v, k) ∧ ((v = .non ∧ ∀ m, jmpD m d = true) ∨ ∃ i : Int, v = .int i ∧ ∀ m, jmpD m d = decide (i < m)) := by
  obtain ⟨w, ps, ks, rfl, hk, ho⟩ := isRow_cases h
  have h1 := jump_in _ (lookup_mem hk)
  have hg : gTb t_PARTS (.str w) = some (.tup (ks.map kindD)) := by
    show t_PARTS.lookup w = _
    rw [look_parts, hk]; rfl
  have hj : ∀ m, jmpD m (.tup (.str w :: ps)) = jmp m ks ps := fun m => by
    show (match kindsL.lookup w with | some ks => jmp m ks ps | none => false) = _
    rw [hk]
  simp only at h1
  unfold F_jump_of body_jump_of
  cases hc : ks.contains 2 with
  | false =>
    rw [hc] at h1
    refine ⟨.non, by simp! [ix_head, hg, h1], .inl ⟨rfl, fun m => ?_⟩⟩
    rw [hj]; unfold jmp; rw [hc]; rfl
  | true =>
    rw [hc] at h1
    obtain ⟨i, hi⟩ := jump_parts hk ho hc
    have hx : gIx (.tup (.str w :: ps)) (.int (-1)) = some (.int i) := by rw [ix_last]; exact last_cons hi
    refine ⟨.int i, by simp! [ix_head, hg, h1, hx], .inr ⟨i, rfl, fun m => ?_⟩⟩
    rw [hj]; unfold jmp; rw [hc, hi]; rfl
theorem row_of_ok {d : D} (m : Int) (k : Dk) (h : plain d = true) (hw : mx d ≤ 9000) : F_is_row_of [.int m, d] k = some (.bl (rowOf m d), k) := by
  have h1 := is_row_ok d k h hw
  unfold F_is_row_of body_is_row_of rowOf
  cases e : isRow d with
  | false =>
    rw [e] at h1
    simp! [h1]
  | true =>
    rw [e] at h1
    obtain ⟨v, q1, q2⟩ := jump_ok e k
    rcases q2 with ⟨rfl, hj⟩ | ⟨i, rfl, hj⟩
    · simp! [h1, q1, isNonD, hj]
    · simp! [h1, q1, isNonD, hj]
/-- a last row -/
def endOk (d : D) : Bool := match d with
  | .tup (.str w :: _) => decide (w = "end") || decide (w = "go")
  | _ => false
theorem in2 (w a b : Str) (hw : asc w = true) (ha : asc a = true) (hb : asc b = true) : gIn (.str w) (.tup [.str a, .str b]) = some (.bl (decide (w = a) || decide (w = b))) := by
  have h := in_tup (l := [a, b]) hw (fun x hx => by
    simp only [List.mem_cons, List.not_mem_nil, or_false] at hx
    rcases hx with rfl | rfl <;> assumption)
  simpa using h
theorem words_asc' {w : Str} {ks : List Nat} (h : kindsL.lookup w = some ks) : asc w = true ∧ w.length ≤ 10 := by
  have : (kindsL.all fun p => asc p.1 && decide (p.1.length ≤ 10)) = true := by decide +kernel
  have := List.all_eq_true.mp this _ (lookup_mem h)
  simpa using this
theorem ends_ok {d : D} (h : isRow d = true) (k : Dk) : F_ends_well [d] k = some (.bl (endOk d), k) := by
  obtain ⟨w, ps, ks, rfl, hk, ho⟩ := isRow_cases h
  have ha := (words_asc' hk).1
  have h1 := in2 w "end" "go" ha (by decide) (by decide)
  unfold F_ends_well body_ends_well g_LAST
  simp! [ix_head, h1]
  rfl
end W02
namespace W02
open PySem PySem.Spec PyProof.Rows L2 WS W01
/-- the first wrong one of some rows -/
def firstBad (rows : List D) : Option Nat := (List.range' 0 rows.length).findSome? fun i => if rowOf rows.length (rows.getD i .non) then none else some i
def wrongOf (rows : List D) : Option Nat := match firstBad rows with
  | some i => some i
  | none => if endOk (rows.getLastD .non) then none else some rows.length
/-- things of rows -/
structure RowsOk (rows : List D) : Prop where
  p : plains rows = true
  x : mx (.tup rows) ≤ 9000
theorem RowsOk.at {rows : List D} (h : RowsOk rows) {i : Nat} {r : D} (e : rows[i]? = some r) : plain r = true ∧ mx r ≤ 9000 :=
  ⟨plains_mem h.p r (List.mem_of_getElem? e), (mx_tup.mp h.x).2 r (List.mem_of_getElem? e)⟩
theorem RowsOk.len {rows : List D} (h : RowsOk rows) : rows.length ≤ 9000 := (mx_tup.mp h.x).1
theorem prog_loop {rows : List D} (h : RowsOk rows) (a0 : Sl) (k : Dk) : ∃ ρ', sForGo (gPair (gSet 2) (gSet 3)) L1_Program ((rows.zipIdx).map fun x => .tup [.int (x.2 : Int), x.1]) [a0, .val (.tup rows), .no, .no] k
    = some (((firstBad rows).map fun i : Nat => Out.ex "NoProgram" ["row"] [.int (i : Int)]).getD .nx, ρ', k) ∧ (firstBad rows = none → ∃ b c, ρ' = [a0, .val (.tup rows), b, c]) := by
  obtain ⟨ρ', e1, e2⟩ := for_find (g := gPair (gSet 2) (gSet 3)) (body := L1_Program) (k := k) (fun i ρ => ∃ b c, ρ = [a0, .val (.tup rows), b, c])
    (fun i => (if rowOf rows.length (rows.getD i .non) then none else some i).map fun i : Nat => Out.ex "NoProgram" ["row"] [.int (i : Int)])
    ((rows.zipIdx).map fun x => .tup [.int (x.2 : Int), x.1]) 0 [a0, .val (.tup rows), .no, .no] ⟨_, _, rfl⟩ (fun i d hd ρ ⟨b, c, e⟩ => by
      subst e
      rw [List.getElem?_map, List.getElem?_zipIdx] at hd
      cases er : rows[i]? with
      | none => rw [er] at hd; cases hd
      | some r =>
        rw [er] at hd
        simp only [Option.map_some, Option.some.injEq] at hd
        subst hd
        obtain ⟨hp, hx⟩ := h.at er
        have h1 := row_of_ok rows.length k hp hx
        have hl := h.len
        have hi : i < rows.length := (List.getElem?_eq_some_iff.mp er).1
        rw [Nat.zero_add, List.getD_eq_getElem?_getD, er, Option.getD_some]
        refine ⟨_, [a0, .val (.tup rows), .val (.int (i : Int)), .val r], rfl, ?_, fun _ => ⟨_, _, rfl⟩, fun o ho => ?_⟩
        · unfold L1_Program
          cases hr : rowOf rows.length r with
          | true =>
            rw [hr] at h1
            simp! [h1]
            rfl
          | false =>
            rw [hr] at h1
            have hz : ∀ {α : Type} (o : α), rz okDI (.int (i : Int)) o = some o := fun o => rz_int (by
              have : i ≤ 9000 := by omega
              have h9 : (9000 : Nat) ≤ 10 ^ 55 := by decide
              omega)
            simp! [h1, hz]
            rfl
        · cases hr : rowOf rows.length r with
          | true => rw [hr] at ho; cases ho
          | false => rw [hr] at ho; cases ho; rfl)
  rw [findSome_map] at e1 e2
  simp only [List.length_map, List.length_zipIdx] at e1 e2
  refine ⟨ρ', e1, fun z => e2 ?_⟩
  show (firstBad rows).map _ = none
  rw [z]; rfl
/-- the row that a refusal tells -/
def refus (d : D) : Option Int := match d with
  | .tup rows => if 1 ≤ rows.length ∧ rows.length ≤ 200 then (wrongOf rows).map fun i : Nat => (i : Int) else some (-1)
  | _ => some (-1)
/-- how Program(..) ends -/
def progR (d : D) : Rs D := match refus d with
  | none => .ok (.ins "Program" ["rows"] [d])
  | some i => .ex "NoProgram" ["row"] [.int i]
theorem firstBad_row {rows : List D} (h : firstBad rows = none) {i : Nat} {r : D} (e : rows[i]? = some r) : rowOf rows.length r = true := by
  unfold firstBad at h
  rw [List.findSome?_eq_none_iff] at h
  have hi : i < rows.length := (List.getElem?_eq_some_iff.mp e).1
  have := h i (by simp [List.mem_range']; exact hi)
  rw [List.getD_eq_getElem?_getD, e, Option.getD_some] at this
  cases hr : rowOf rows.length r with
  | true => rfl
  | false => rw [hr] at this; cases this
theorem okPart_row {m : Int} {d : D} (h : rowOf m d = true) : isRow d = true := by
  unfold rowOf at h
  exact (Bool.and_eq_true_iff.mp h).1
theorem last_some {rows : List D} (h : 1 ≤ rows.length) : ∃ (r : D) (i : Nat), rows.getLast? = some r ∧ rows[i]? = some r ∧ rows.getLastD .non = r := by
  cases rows with
  | nil => simp at h
  | cons x r =>
    refine ⟨(x :: r).getLast (by simp), (x :: r).length - 1, List.getLast?_eq_getLast _, ?_, ?_⟩
    · rw [← List.getLast?_eq_getElem?, List.getLast?_eq_getLast]
    · rw [List.getLastD_eq_getLast?, List.getLast?_eq_getLast]; rfl
theorem prog_ok {d : D} (k : Dk) (hp : plain d = true) (hx : mx d ≤ 9000) : F_Program [d] k = some (progR d, k) := by
  unfold F_Program mkF
  refine allA_eq fun p => ?_
  unfold I_Program
  rw [ap_runI]
  have hm1 : ∀ {α : Type} (o : α), rz okDI (.int (-1)) o = some o := fun o => rz_int (by decide)
  unfold front_Program
  cases d <;> first | (exact absurd hp Bool.false_ne_true) | skip
  case tup rows =>
    have h : RowsOk rows := ⟨hp, hx⟩
    have hl := h.len
    by_cases h1 : 1 ≤ rows.length
    · by_cases h2 : rows.length ≤ 200
      · have h1' : (1 : Int) ≤ rows.length := by omega
        have h2' : (rows.length : Int) ≤ 200 := by omega
        have hg : gEnumG [.tup rows] = some ((rows.zipIdx).map fun x => .tup [.int (x.2 : Int), x.1]) := rfl
        obtain ⟨ρ', e1, e2⟩ := prog_loop h (.val (.obj p)) k
        have hR : refus (.tup rows) = (wrongOf rows).map fun i : Nat => (i : Int) := if_pos ⟨h1, h2⟩
        unfold progR
        rw [hR]
        cases hb : firstBad rows with
        | some i =>
          rw [hb] at e1
          simp only [Option.map_some, Option.getD_some] at e1
          have hw : wrongOf rows = some i := by unfold wrongOf; rw [hb]
          rw [hw]
          simp only [Option.map_some]
          simp! [g_MOST_ROWS, h1', h2', hg, e1, finI_ex]
        | none =>
          rw [hb] at e1
          simp only [Option.map_none, Option.getD_none] at e1
          obtain ⟨b, c, rfl⟩ := e2 hb
          obtain ⟨r, i, r1, r2, r3⟩ := last_some h1
          have hrow := okPart_row (firstBad_row hb r2)
          have he := ends_ok hrow k
          have hx1 : gIx (.tup rows) (.int (-1)) = some r := by rw [ix_last]; exact r1
          have hw : wrongOf rows = if endOk r then none else some rows.length := by unfold wrongOf; rw [hb, r3]
          rw [hw]
          cases hE : endOk r with
          | true =>
            rw [hE] at he
            simp only [if_true, Option.map_none]
            simp! [g_MOST_ROWS, h1', h2', hg, e1, hx1, he, finI_nx]
            rfl
          | false =>
            rw [hE] at he
            have hz : ∀ {α : Type} (o : α), rz okDI (.int (rows.length : Int)) o = some o := fun o => rz_int (by
              have h9 : (9000 : Nat) ≤ 10 ^ 55 := by decide
              omega)
            simp only [Bool.false_eq_true, if_false, Option.map_some]
            simp! [g_MOST_ROWS, h1', h2', hg, e1, hx1, he, hz, finI_ex]
      · have h1' : (1 : Int) ≤ rows.length := by omega
        have h2' : ¬ (rows.length : Int) ≤ 200 := by omega
        have hR : refus (.tup rows) = some (-1) := if_neg fun z => h2 z.2
        unfold progR
        rw [hR]
        simp! [g_MOST_ROWS, h1', h2', hm1, finI_ex]
    · have h1' : ¬ (1 : Int) ≤ rows.length := by omega
      have hR : refus (.tup rows) = some (-1) := if_neg fun z => h1 z.1
      unfold progR
      rw [hR]
      simp! [g_MOST_ROWS, h1', hm1, finI_ex]
  all_goals
    simp! [hm1, finI_ex]
    rfl
end W02
namespace W02
open PySem PySem.Spec PyProof.Rows L2 WS W01
theorem range0 {n : Nat} (h : n ≤ 100000) : gRange1 [.int (n : Int)] = some (rangeD 0 n 1) := by
  rw [r_range1 (j := (n : Int)) ⟨by omega, by omega⟩]; rfl
theorem rangeD_len {lo : Int} {n : Nat} {c : Int} : (rangeD lo n c).length = n := by simp [rangeD]
theorem rangeD_at {n i : Nat} {d : D} (h : (rangeD 0 n 1)[i]? = some d) : i < n ∧ d = .int (i : Int) := by
  have hi : i < n := by
    have := (List.getElem?_eq_some_iff.mp h).1
    rwa [rangeD_len] at this
  refine ⟨hi, ?_⟩
  unfold rangeD at h
  rw [List.getElem?_map, List.getElem?_range hi, Option.map_some, Option.some.injEq] at h
  rw [← h]; simp
theorem jmpD_at {w : Str} {ks : List Nat} {ps : List D} {m : Int} (hk : kindsL.lookup w = some ks) : jmpD m (.tup (.str w :: ps)) = jmp m ks ps := by
  show (match kindsL.lookup w with | some ks => jmp m ks ps | none => false) = _
  rw [hk]
theorem wrong_step {rows : List D} (h : RowsOk rows) {i : Nat} {r : D} (e : rows[i]? = some r) (s : Sl) (k : Dk) :
    L1__law_wrong [.val (.tup rows), .val (.int (i : Int))] k = some (((if rowOf rows.length r then none else some i).map fun i : Nat => Out.rt (.int (i : Int))).getD .nx, [.val (.tup rows), .val (.int (i : Int))], k) := by
  obtain ⟨hp, hx⟩ := h.at e
  have h1 := lis_row_ok r k hp hx
  have hg : gIx (.tup rows) (.int (i : Int)) = some r := by rw [WS.ix_tup]; exact e
  unfold L1__law_wrong
  cases hr : isRow r with
  | false =>
    have h2 : rowOf rows.length r = false := by unfold rowOf; rw [hr]; rfl
    rw [hr] at h1
    rw [h2]
    simp! [hg, h1]
    rfl
  | true =>
    rw [hr] at h1
    obtain ⟨w, ps, ks, rfl, hk, ho⟩ := isRow_cases hr
    have h2 : rowOf rows.length (.tup (.str w :: ps)) = jmp rows.length ks ps := by unfold rowOf; rw [hr, jmpD_at hk]; rfl
    have hkd := l_kinds_ok k
    have hgk := get_kinds hk
    have hn := n_in _ (lookup_mem hk)
    simp only at hn
    rw [h2]
    cases hc : ks.contains 2 with
    | false =>
      rw [hc] at hn
      have hj : jmp rows.length ks ps = true := by unfold jmp; rw [hc]; rfl
      rw [hj]
      simp! [hg, h1, hkd, ix_head, hgk, hn]
      rfl
    | true =>
      rw [hc] at hn
      obtain ⟨j, hj⟩ := jump_parts hk ho hc
      have hx1 : gIx (.tup (.str w :: ps)) (.int (-1)) = some (.int j) := by rw [ix_last]; exact last_cons hj
      have hj2 : jmp rows.length ks ps = decide (j < (rows.length : Int)) := by unfold jmp; rw [hc, hj]; rfl
      rw [hj2]
      by_cases hlt : j < (rows.length : Int)
      · have hle : ¬ (rows.length : Int) ≤ j := by omega
        simp! [hg, h1, hkd, ix_head, hgk, hn, hx1, hlt, hle]
        rfl
      · have hle : (rows.length : Int) ≤ j := by omega
        simp! [hg, h1, hkd, ix_head, hgk, hn, hx1, hlt, hle]
        rfl
def wrongD : Option Nat → D
  | none => .non
  | some i => .int (i : Int)
theorem wrong_ok {rows : List D} (h : RowsOk rows) (h1 : 1 ≤ rows.length) (k : Dk) : F__law_wrong [.tup rows] k = some (wrongD (wrongOf rows), k) := by
  have hl := h.len
  obtain ⟨ρ', e1, e2⟩ := for_find (g := gSet 1) (body := L1__law_wrong) (k := k) (fun i ρ => ∃ b, ρ = [.val (.tup rows), b])
    (fun i => (if rowOf rows.length (rows.getD i .non) then none else some i).map fun i : Nat => Out.rt (.int (i : Int)))
    (rangeD 0 rows.length 1) 0 [.val (.tup rows), .no] ⟨_, rfl⟩ (fun i d hd ρ ⟨b, e⟩ => by
      subst e
      obtain ⟨hi, rfl⟩ := rangeD_at hd
      have er : rows[i]? = some rows[i] := List.getElem?_eq_getElem hi
      rw [Nat.zero_add, List.getD_eq_getElem?_getD, er, Option.getD_some]
      refine ⟨_, _, rfl, wrong_step h er b k, fun _ => ⟨_, rfl⟩, fun o ho => ?_⟩
      cases hr : rowOf rows.length rows[i] with
      | true => rw [hr] at ho; cases ho
      | false => rw [hr] at ho; cases ho; rfl)
  rw [findSome_map, rangeD_len] at e1
  rw [findSome_map, rangeD_len] at e2
  change sForGo _ _ _ _ _ = some (((firstBad rows).map fun i : Nat => Out.rt (.int (i : Int))).getD .nx, ρ', k) at e1
  have hrg := range0 (n := rows.length) (by omega)
  unfold F__law_wrong body__law_wrong
  cases hb : firstBad rows with
  | some i =>
    rw [hb] at e1
    simp only [Option.map_some, Option.getD_some] at e1
    have hw : wrongOf rows = some i := by unfold wrongOf; rw [hb]
    rw [hw]
    simp! [hrg, e1]
    rfl
  | none =>
    rw [hb] at e1
    simp only [Option.map_none, Option.getD_none] at e1
    obtain ⟨b, rfl⟩ := e2 (by show (firstBad rows).map _ = none; rw [hb]; rfl)
    obtain ⟨r, i, r1, r2, r3⟩ := last_some h1
    have hrow := okPart_row (firstBad_row hb r2)
    obtain ⟨w, ps, ks, rfl, hk, ho⟩ := isRow_cases hrow
    have hx1 : gIx (.tup rows) (.int (-1)) = some (.tup (.str w :: ps)) := by rw [ix_last]; exact r1
    have h2 := in2 w "end" "go" (words_asc' hk).1 (by decide) (by decide)
    have hw : wrongOf rows = if endOk (.tup (.str w :: ps)) then none else some rows.length := by unfold wrongOf; rw [hb, r3]
    have hE : endOk (.tup (.str w :: ps)) = (decide (w = "end") || decide (w = "go")) := rfl
    rw [hw, hE]
    cases hc : (decide (w = "end") || decide (w = "go")) with
    | true =>
      rw [hc] at h2
      simp! [hrg, e1, hx1, ix_head, h2]
      rfl
    | false =>
      rw [hc] at h2
      simp! [hrg, e1, hx1, ix_head, h2]
      rfl
def clsD : D := .lst [.bl true, .bl false, .bl false, .bl false, .bl false, .bl false, .bl true, .bl true, .bl false]
theorem classes_ok {x : D} (k : Dk) : F__law_classes [.ins "NoProgram" ["row"] [x]] k = some (clsD, k) := by
  have g1 : ∀ a b c d e f : D, gAddB (.lst [a, b, c]) (.lst [d, e, f]) = some (.lst [a, b, c, d, e, f]) := fun _ _ _ _ _ _ => r_addL (by simp)
  have g2 : ∀ a b c d e f x y z : D, gAddB (.lst [a, b, c, d, e, f]) (.lst [x, y, z]) = some (.lst [a, b, c, d, e, f, x, y, z]) := fun _ _ _ _ _ _ _ _ _ => r_addL (by simp)
  unfold F__law_classes body__law_classes
  simp! [q_NoProgram_NoProgram, q_NoText_NoProgram, q_NoGear_NoProgram, q_NoPlan_NoProgram, q_NoRow_NoProgram, q_TooMany_NoProgram, q_WeaveError_NoProgram, q_ValueError_NoProgram, q_IndexError_NoProgram, g1, g2]
  rfl
/-- what is due -/
def dueD (d : D) : D := match refus d with
  | none => .tup [.str "made", d]
  | some i => .tup [clsD, .int i]
theorem refus_none {d : D} (h : refus d = none) : ∃ rows, d = .tup rows ∧ 1 ≤ rows.length ∧ rows.length ≤ 200 ∧ wrongOf rows = none := by
  cases d with
  | tup rows =>
    have h' : (if 1 ≤ rows.length ∧ rows.length ≤ 200 then (wrongOf rows).map fun i : Nat => (i : Int) else some (-1)) = none := h
    split at h'
    · rename_i q
      exact ⟨rows, rfl, q.1, q.2, Option.map_eq_none_iff.mp h'⟩
    · cases h'
  | _ => cases h
theorem made_ok {d : D} (k : Dk) (hp : plain d = true) (hx : mx d ≤ 9000) : F__law_made [d] k = some (dueD d, k) := by
  have h1 := prog_ok k hp hx
  unfold progR at h1
  unfold F__law_made body__law_made dueD
  cases hr : refus d with
  | none =>
    rw [hr] at h1
    simp! [h1, l_rows_Program]
  | some i =>
    rw [hr] at h1
    simp! [h1, tr_yes y_NoProgram_NoProgram, classes_ok, l_row_NoProgram]
theorem due_ok {d : D} (k : Dk) (hp : plain d = true) (hx : mx d ≤ 9000) : F__law_due [d] k = some (dueD d, k) := by
  unfold F__law_due body__law_due dueD
  cases d <;> first | (exact absurd hp Bool.false_ne_true) | skip
  case tup rows =>
    have h : RowsOk rows := ⟨hp, hx⟩
    by_cases h1 : 1 ≤ rows.length
    · have h1' : (1 : Int) ≤ rows.length := by omega
      by_cases h2 : rows.length ≤ 200
      · have h2' : (rows.length : Int) ≤ 200 := by omega
        have hR : refus (.tup rows) = (wrongOf rows).map fun i : Nat => (i : Int) := if_pos ⟨h1, h2⟩
        have hw := wrong_ok h h1 k
        rw [hR]
        cases hb : wrongOf rows with
        | none =>
          rw [hb] at hw
          have hw' : F__law_wrong [.tup rows] k = some (.non, k) := hw
          simp only [Option.map_none]
          simp! [h1', h2', hw', isNonD]
        | some i =>
          rw [hb] at hw
          have hw' : F__law_wrong [.tup rows] k = some (.int (i : Int), k) := hw
          simp only [Option.map_some]
          simp! [h1', h2', hw', isNonD]
          rfl
      · have h2' : ¬ (rows.length : Int) ≤ 200 := by omega
        have hR : refus (.tup rows) = some (-1) := if_neg fun z => h2 z.2
        rw [hR]
        simp! [h1', h2', isNonD]
        rfl
    · have h1' : ¬ (1 : Int) ≤ rows.length := by omega
      have hR : refus (.tup rows) = some (-1) := if_neg fun z => h1 z.1
      rw [hR]
      simp! [h1', isNonD]
      rfl
  all_goals
    simp! [isNonD]
    rfl
/-- a thing that may be asked about -/
structure AskP (d : D) : Prop where
  l : ∃ M, lf M d = true ∧ M ≤ 10 ^ 55
  w : bk d ≤ 100000
  p : dpt d ≤ 50
  x : mx d ≤ 9000
theorem AskP.plain {d : D} (h : AskP d) : plain d = true := by
  obtain ⟨M, h1, _⟩ := h.l
  exact plain_lf h1
theorem AskP.of {M W P X : Nat} {d : D} (h : Bd M W P X d) (h1 : M ≤ 10 ^ 55) (h2 : W ≤ 100000) (h3 : P ≤ 50) (h4 : X ≤ 9000) : AskP d :=
  ⟨⟨M, h.l, h1⟩, Nat.le_trans h.w h2, Nat.le_trans h.p h3, Nat.le_trans h.x h4⟩
theorem AskP.repr {d : D} (h : AskP d) : ∃ x, gRepr [d] = some (.str x) := by
  obtain ⟨M, h1, h2⟩ := h.l
  exact repr_bk h1 h2 (Nat.le_trans h.w (by omega)) (Nat.le_trans h.p (by omega))
theorem refus_le {d : D} {i : Int} (h : refus d = some i) : i.natAbs ≤ 200 := by
  cases d with
  | tup rows =>
    have h' : (if 1 ≤ rows.length ∧ rows.length ≤ 200 then (wrongOf rows).map fun i : Nat => (i : Int) else some (-1)) = some i := h
    split at h'
    · rename_i q
      obtain ⟨j, hj, rfl⟩ := Option.map_eq_some_iff.mp h'
      have : j ≤ rows.length := by
        unfold wrongOf at hj
        cases hb : firstBad rows with
        | some i =>
          rw [hb] at hj
          simp only [Option.some.injEq] at hj
          subst hj
          unfold firstBad at hb
          obtain ⟨a, ha, hf⟩ := List.exists_of_findSome?_eq_some hb
          split at hf
          · cases hf
          · simp only [Option.some.injEq] at hf
            subst hf
            simp [List.mem_range'] at ha
            omega
        | none =>
          rw [hb] at hj
          simp only at hj
          split at hj
          · cases hj
          · cases hj; exact Nat.le_refl _
      omega
    · cases h'; decide
  | _ => cases h; decide
theorem due_repr {d : D} (h : AskP d) : ∃ x, gRepr [dueD d] = some (.str x) := by
  obtain ⟨M, h1, h2⟩ := h.l
  have hw := h.w
  have hp := h.p
  unfold dueD
  cases hr : refus d with
  | none =>
    refine repr_bk (M := M) ?_ h2 ?_ ?_
    · simp only [lf, lfs, h1, Bool.and_true, Bool.true_and]; decide
    · show ("made" : Str).length + 1 + (bk d + 1 + 0) ≤ 160000
      have : ("made" : Str).length = 4 := by decide
      omega
    · show max 0 (max (dpt d) 0) + 1 ≤ 60
      omega
  | some i =>
    refine repr_bk (M := 10 ^ 55) ?_ (Nat.le_refl _) ?_ ?_
    · have := refus_le hr
      have h9 : (200 : Nat) ≤ 10 ^ 55 := by decide
      simp only [clsD, lf, lfs, Bool.and_true, Bool.true_and, decide_eq_true_eq]; omega
    · show (9 + 1 + (0 + 1 + 0)) ≤ 160000
      omega
    · show max (max 0 _ + 1) (max 0 0) + 1 ≤ 60
      decide
theorem right_ok {d : D} (h : AskP d) (k : Dk) : F__law_right [d] k = some (.bl true, k) := by
  obtain ⟨x, hx⟩ := h.repr
  obtain ⟨y, hy⟩ := due_repr h
  have h1 := made_ok k h.plain h.x
  have h2 := due_ok k h.plain h.x
  unfold F__law_right body__law_right
  simp! [hx, hy, h1, h2]
end W02
namespace WS
open PySem PySem.Spec PyProof.Rows L2
/-! ### bounds of what spoiling makes -/
section
variable {M W P X : Nat}
theorem bd_one {d : D} (h : Bd M W P X d) : Bd M (W + 1) (P + 1) (X + 1) (.tup [d]) :=
  bd_tup (fun e he => by rw [List.mem_singleton.mp he]; exact h.mono (Nat.le_refl _) (by omega) (Nat.le_refl _) (by omega)) (by have := h.w; simp only [bks]; omega) (by simp)
theorem bd_oneL {d : D} (h : Bd M W P X d) : Bd M (W + 1) (P + 1) (X + 1) (.lst [d]) :=
  bd_lst (fun e he => by rw [List.mem_singleton.mp he]; exact h.mono (Nat.le_refl _) (by omega) (Nat.le_refl _) (by omega)) (by have := h.w; simp only [bks]; omega) (by simp)
theorem bd_lit {M W P X : Nat} {s : Str} (h : (asc s && decide (s.length ≤ 20)) = true) (hw : 20 ≤ W) (hx : 20 ≤ X) : Bd M W P X (.str s) := by
  simp only [Bool.and_eq_true, decide_eq_true_eq] at h
  exact bd_str h.1 (by omega) (by omega)
/-- a part of a tuple's things -/
theorem bd_parts {xs ys : List D} (h : Bd M W P X (.tup xs)) (hs : ∀ d ∈ ys, d ∈ xs) (hw : bks ys ≤ 3 * W + 300) (hx : ys.length ≤ 3 * X + 300) : Bd M (3 * W + 300) P (3 * X + 300) (.tup ys) := by
  have hp := h.p
  simp only [dpt] at hp
  have := bd_tup (M := M) (W := 3 * W + 300) (P := P - 1) (X := 3 * X + 300) (xs := ys) (fun d hd => (h.mem (hs d hd)).mono (Nat.le_refl _) (by omega) (Nat.le_refl _) (by omega)) hw hx
  rwa [show P - 1 + 1 = P by omega] at this
end
def oddAll (l : List D) : Bool := l.all fun d => lf (10 ^ 40) d && decide (bk d ≤ 100) && decide (dpt d ≤ 2) && decide (mx d ≤ 100)
theorem odd_bd {l : List D} (h : oddAll l = true) {M W P X : Nat} (hM : 10 ^ 40 ≤ M) (hW : 100 ≤ W) (hP : 2 ≤ P) (hX : 100 ≤ X) : ∀ d ∈ l, Bd M W P X d := fun d hd => by
  have := List.all_eq_true.mp h d hd
  simp only [Bool.and_eq_true, decide_eq_true_eq] at this
  exact ⟨lf_mono hM this.1.1.1, by omega, by omega, by omega⟩
end WS
namespace W02
open PySem PySem.Spec PyProof.Rows L2 WS W01
abbrev Sp (M W P X : Nat) (d' : D) : Prop := Bd (M + 10 ^ 40) (3 * W + 300) (P + 2) (3 * X + 300) d'
def odds : List D := [.non, .bl true, .bl false, .str "", .str "u", .str "A", .str "end", .int 0, .int (-1), .int 1000000, .int (10 ^ 39), .tup [], .lst [], .dct [] [], .tup [.str "go", .int 0], .str "a"]
theorem other_ok {n : Nat} {k : Dk} (hk : DkOk n k) (hn : n < 100000000000) {M W P X : Nat} {d : D} (hb : Bd M W P X d) (hM : M ≤ 10 ^ 50) (hX : X ≤ 100000) :
    ∃ d' k', F__law_other [.deck, d] k = some (d', k') ∧ Sp M W P X d' ∧ DkOk (n + 2) k' := by
  obtain ⟨w, k1, e1, w1, w2, d1⟩ := draw_ok hk 9 ⟨by omega, by omega⟩ (by omega)
  unfold F__law_other body__law_other
  have hpow6 := pow6
  have hpow : gPow (.int 10) (.int 39) = some (.int (10 ^ 39)) := r_pow (i := 10) (n := 39) ⟨by omega, by omega⟩
  have h40 : (1 : Nat) ≤ 10 ^ 40 := by decide
  have h41 : (2000001 : Nat) ≤ 10 ^ 40 := by decide
  by_cases c0 : w = 0
  · obtain ⟨i, k2, e2, i1, i2, d2⟩ := draw_ok d1 16 ⟨by omega, by omega⟩ (by omega)
    obtain ⟨d', e3, hs⟩ := pick_at (odd_bd (l := odds) (by decide +kernel) (M := M + 10 ^ 40) (W := 3 * W + 300) (P := P + 2) (X := 3 * X + 300) (by omega) (by omega) (by omega) (by omega)) i1 (show i < (odds.length : Int) from i2)
    refine ⟨d', k2, ?_, hs, d2⟩
    unfold odds at e3
    simp! [e1, c0, hpow, hpow6, e2, e3]
  · have c1 : 0 ≤ w - 1 := by omega
    have c2 : w - 1 < 8 := by omega
    have h := hb.l
    have up : ∀ {d}, Bd M W P X d → Sp M W P X d := fun h => h.mono (by omega) (by omega) (by omega) (by omega)
    cases d <;> first | (exact absurd h Bool.false_ne_true) | skip
    case str x =>
      have hx : x.length ≤ X := hb.x
      have hxw : x.length ≤ W := hb.w
      have ha : asc x = true := by simpa only [lf] using h
      have u1 := len_cut (x := x) (lo := none) (hi := some (-1))
      have u2 := len_up x
      have u3 : (x ++ ("a" : Str)).length = x.length + 1 := strLen_append _ _
      have u4 : (x ++ x).length = x.length + x.length := strLen_append _ _
      obtain ⟨d', e3, hs⟩ := pick_at (xs := [.str (x ++ "a"), .str (cutS x none (some (-1))), .str (Txt.upper x), .str "go", .str (x ++ x), .lst [.str x], .tup [.str x], .str "let"]) (P := Sp M W P X) (by
        intro d hd
        simp only [List.mem_cons, List.not_mem_nil, or_false] at hd
        rcases hd with rfl | rfl | rfl | rfl | rfl | rfl | rfl | rfl
        · exact bd_str (asc_app ha (by decide)) (by omega) (by omega)
        · exact bd_str (asc_cut ha _ _) (by omega) (by omega)
        · exact bd_str (asc_upper ha) (by omega) (by omega)
        · exact bd_lit (by decide) (by omega) (by omega)
        · exact bd_str (asc_app ha ha) (by omega) (by omega)
        · exact (bd_oneL hb).mono (by omega) (by omega) (by omega) (by omega)
        · exact (bd_one hb).mono (by omega) (by omega) (by omega) (by omega)
        · exact bd_lit (by decide) (by omega) (by omega)) c1 (by simpa using c2)
      refine ⟨d', k1, ?_, hs, d1.mono (by omega)⟩
      have a1 : gAddB (.str x) (.str "a") = some (.str (x ++ "a")) := r_addS (by have : ("a" : Str).length = 1 := rfl; omega)
      have a2 : gAddB (.str x) (.str x) = some (.str (x ++ x)) := r_addS (by omega)
      have a3 : gSl (.str x) none (some (-1)) = some (.str (cutS x none (some (-1)))) := r_slS (by omega)
      have a4 : gUpper (.str x) = some (.str (Txt.upper x)) := r_upper (by omega)
      simp! [e1, c0, a1, a2, a3, a4, e3]
    case int x =>
      have hx : x.natAbs ≤ M := by simpa only [lf, decide_eq_true_eq] using h
      have hi : ∀ y : Int, y.natAbs ≤ M + 1000001 → Sp M W P X (.int y) := fun y hy => bd_int (by omega)
      have hs1 : asc (Str.ofString (toString x)) = true := by
        rw [asc_iff]
        exact int_asc x
      have hs2 := len_int (i := x) (by have : (10 : Nat) ^ 50 ≤ 10 ^ 55 := by decide
                                       omega)
      obtain ⟨d', e3, hs⟩ := pick_at (xs := [.int (x + 1), .int (x - 1), .int (-1 - x), .bl (decide (x = 1)), .int (x + 1000000), .str (toString x : String), .tup [.int x], .str "b"]) (P := Sp M W P X) (by
        intro d hd
        simp only [List.mem_cons, List.not_mem_nil, or_false] at hd
        rcases hd with rfl | rfl | rfl | rfl | rfl | rfl | rfl | rfl
        · exact hi _ (by omega)
        · exact hi _ (by omega)
        · exact hi _ (by omega)
        · exact bd_bl
        · exact hi _ (by omega)
        · exact bd_str hs1 (by omega) (by omega)
        · exact (bd_one hb).mono (by omega) (by omega) (by omega) (by omega)
        · exact bd_lit (by decide) (by omega) (by omega)) c1 (by simpa using c2)
      refine ⟨d', k1, ?_, hs, d1.mono (by omega)⟩
      have a1 : gStr [.int x] = some (.str (toString x : String)) := r_str (by
        have : x.natAbs < 10 ^ 56 := Nat.lt_of_le_of_lt (Nat.le_trans hx hM) (by decide)
        by_cases h0 : x.natAbs = 0
        · rw [h0]; decide
        · exact Nat.lt_trans ((Nat.log2_lt h0).mpr (Nat.lt_trans this (by decide : 10 ^ 56 < 2 ^ 187))) (by decide))
      simp! [e1, c0, a1, pow6, e3]
    case bl b =>
      have hi : ∀ y : Int, y.natAbs ≤ 2000000 → Sp M W P X (.int y) := fun y hy => bd_int (by omega)
      obtain ⟨d', e3, hs⟩ := pick_at (xs := [.int (b2i b + 1), .int (b2i b - 1), .int (-1 - b2i b), .bl (decide (b2i b = 1)), .int (b2i b + 1000000), .str (if b then ("True" : Str) else ("False" : Str)), .tup [.bl b], .str "b"]) (P := Sp M W P X) (by
        intro d hd
        simp only [List.mem_cons, List.not_mem_nil, or_false] at hd
        rcases hd with rfl | rfl | rfl | rfl | rfl | rfl | rfl | rfl
        · exact hi _ (by cases b <;> decide)
        · exact hi _ (by cases b <;> decide)
        · exact hi _ (by cases b <;> decide)
        · exact bd_bl
        · exact hi _ (by cases b <;> decide)
        · exact bd_lit (by cases b <;> decide) (by omega) (by omega)
        · exact (bd_one hb).mono (by omega) (by omega) (by omega) (by omega)
        · exact bd_lit (by decide) (by omega) (by omega)) c1 (by simpa using c2)
      refine ⟨d', k1, ?_, hs, d1.mono (by omega)⟩
      have a1 : gStr [.bl b] = some (.str (if b then ("True" : Str) else ("False" : Str))) := rfl
      simp! [e1, c0, a1, pow6, e3]
    case tup xs =>
      cases xs with
      | nil =>
        obtain ⟨j, k2, e2, j1, j2, d2⟩ := draw_ok d1 3 ⟨by omega, by omega⟩ (by omega)
        refine ⟨.tup [.int j], k2, ?_, (bd_one (M := M + 10 ^ 40) (W := 0) (P := 0) (X := 0) (bd_int (i := j) (by omega))).mono (by omega) (by omega) (by omega) (by omega), d2⟩
        simp! [e1, c0, List.isEmpty_nil, e2]
      | cons x0 r =>
        have hw' : bks (x0 :: r) ≤ W := hb.w
        have hpos' : 1 ≤ P := by have := hb.p; simp only [dpt] at this; omega
        generalize hXs : (x0 :: r) = xs at *
        have hlen : xs.length ≤ X := hb.len
        have hpos : 0 < xs.length := by rw [← hXs]; simp
        have hne : xs.isEmpty = false := by rw [← hXs]; rfl
        obtain ⟨j, k2, e2, j1, j2, d2⟩ := draw_ok d1 (xs.length : Int) ⟨by omega, by omega⟩ (by omega)
        have mk : ∀ Y : List D, (∀ d ∈ Y, d ∈ xs) → bks Y ≤ 2 * W + 200 → Y.length ≤ 2 * X + 200 → Sp M W P X (.tup Y) := fun Y hY hw hx =>
          (bd_parts hb hY (by omega) (by omega)).mono (by omega) (by omega) (by omega) (by omega)
        have t1 := bks_take j.toNat xs
        have t2 := bks_drop (j + 1).toNat xs
        have t3 := bks_take (j + 1).toNat xs
        have t4 := bks_drop j.toNat xs
        have t5 := bks_rev xs
        have hj : j.toNat < xs.length := by omega
        have l1 : (xs.take j.toNat).length ≤ xs.length := by rw [List.length_take]; omega
        have l2 : (xs.drop (j + 1).toNat).length ≤ xs.length := by rw [List.length_drop]; omega
        have l3 : (xs.take (j + 1).toNat).length ≤ xs.length := by rw [List.length_take]; omega
        have l4 : (xs.drop j.toNat).length ≤ xs.length := by rw [List.length_drop]; omega
        obtain ⟨d', e3, hs⟩ := pick_at (xs := [.tup (xs.take j.toNat ++ xs.drop (j + 1).toNat), .tup (xs.take (j + 1).toNat ++ xs.drop j.toNat), .tup xs.reverse, .lst xs, xs[j.toNat], .tup [], .tup (xs.drop j.toNat ++ xs.take j.toNat), .tup (xs ++ [.int 0])]) (P := Sp M W P X) (by
          intro d hd
          simp only [List.mem_cons, List.not_mem_nil, or_false] at hd
          rcases hd with rfl | rfl | rfl | rfl | rfl | rfl | rfl | rfl
          · exact mk _ (fun d hd => by
              rcases List.mem_append.mp hd with q | q
              · exact List.mem_of_mem_take q
              · exact List.mem_of_mem_drop q) (by rw [bks_app]; omega) (by rw [List.length_append]; omega)
          · exact mk _ (fun d hd => by
              rcases List.mem_append.mp hd with q | q
              · exact List.mem_of_mem_take q
              · exact List.mem_of_mem_drop q) (by rw [bks_app]; omega) (by rw [List.length_append]; omega)
          · exact mk _ (fun d hd => List.mem_reverse.mp hd) (by omega) (by rw [List.length_reverse]; omega)
          · have := bd_lst (M := M + 10 ^ 40) (W := 3 * W + 300) (P := P + 1) (X := 3 * X + 300) (xs := xs) (fun d hd => (hb.mem hd).mono (by omega) (by omega) (by omega) (by omega)) (by omega) (by omega)
            exact this
          · exact (hb.mem (List.getElem_mem hj)).mono (by omega) (by omega) (by omega) (by omega)
          · exact mk _ (fun d hd => by simp at hd) (by simp [bks]) (by simp)
          · exact mk _ (fun d hd => by
              rcases List.mem_append.mp hd with q | q
              · exact List.mem_of_mem_drop q
              · exact List.mem_of_mem_take q) (by rw [bks_app]; omega) (by rw [List.length_append]; omega)
          · have := bd_tup (M := M + 10 ^ 40) (W := 3 * W + 300) (P := P + 1) (X := 3 * X + 300) (xs := xs ++ [.int 0]) (fun d hd => by
              rcases List.mem_append.mp hd with q | q
              · exact (hb.mem q).mono (by omega) (by omega) (by omega) (by omega)
              · rw [List.mem_singleton.mp q]; exact bd_int (Nat.zero_le _)) (by rw [bks_app]; simp only [bks, bk]; omega) (by simp; omega)
            exact this) c1 (by simpa using c2)
        refine ⟨d', k2, ?_, hs, d2⟩
        have hx1 : gIx (.tup xs) (.int j) = some xs[j.toNat] := by
          have := WS.ix_tup (xs := xs) (n := j.toNat)
          rw [Int.toNat_of_nonneg j1] at this
          rw [this, List.getElem?_eq_getElem hj]
        have b1 : gSl (.tup xs) none (some j) = some (.tup (xs.take j.toNat)) := sl_to j1
        have b2 : gSl (.tup xs) (some (j + 1)) none = some (.tup (xs.drop (j + 1).toNat)) := sl_from (by omega)
        have b3 : gSl (.tup xs) none (some (j + 1)) = some (.tup (xs.take (j + 1).toNat)) := sl_to (by omega)
        have b4 : gSl (.tup xs) (some j) none = some (.tup (xs.drop j.toNat)) := sl_from j1
        have g1 : gAddB (.tup (xs.take j.toNat)) (.tup (xs.drop (j + 1).toNat)) = some (.tup (xs.take j.toNat ++ xs.drop (j + 1).toNat)) := r_addT (by omega)
        have g2 : gAddB (.tup (xs.take (j + 1).toNat)) (.tup (xs.drop j.toNat)) = some (.tup (xs.take (j + 1).toNat ++ xs.drop j.toNat)) := r_addT (by omega)
        have g3 : gAddB (.tup (xs.drop j.toNat)) (.tup (xs.take j.toNat)) = some (.tup (xs.drop j.toNat ++ xs.take j.toNat)) := r_addT (by omega)
        have g4 : gAddB (.tup xs) (.tup [.int 0]) = some (.tup (xs ++ [.int 0])) := r_addT (by simp; omega)
        have g5 : ∀ a b c d e f g h : D, gAddB (.lst [a, b, c, d, e, f]) (.lst [g, h]) = some (.lst [a, b, c, d, e, f, g, h]) := fun a b c d e f g h => r_addL (by simp)
        simp! [e1, c0, hne, e2, hx1, b1, b2, b3, b4, g1, g2, g3, g4, g5, e3]
    all_goals
      obtain ⟨j, k2, e2, j1, j2, d2⟩ := draw_ok d1 3 ⟨by omega, by omega⟩ (by omega)
      refine ⟨.tup [.int j], k2, ?_, (bd_one (M := M + 10 ^ 40) (W := 0) (P := 0) (X := 0) (bd_int (i := j) (by omega))).mono (by omega) (by omega) (by omega) (by omega), d2⟩
      simp! [e1, c0, e2]
theorem spoilt_ok : ∀ (f : Nat) {n : Nat} {k : Dk} (hk : DkOk n k) (hn : n + 5 * f < 10000000000) {M W P X : Nat} {d : D} (hd : dpt d < f) (hb : Bd M W P X d) (hM : M ≤ 10 ^ 50) (hX : X ≤ 100000),
    ∃ d' k', F__law_spoilt f [.deck, d] k = some (d', k') ∧ Sp M W P X d' ∧ DkOk (n + 5 * f) k'
  | 0, n, k, hk, hn, M, W, P, X, d, hd, _, _, _ => by omega
  | f + 1, n, k, hk, hn, M, W, P, X, d, hd, hb, hM, hX => by
    show ∃ d' k', runS 3 (body__law_spoilt (F__law_spoilt f)) [.deck, d] k = some (d', k') ∧ _
    unfold body__law_spoilt
    have oth : ∀ {m : Nat} {k1 : Dk}, DkOk m k1 → m ≤ n + 1 → ∃ d' k', F__law_other [.deck, d] k1 = some (d', k') ∧ Sp M W P X d' ∧ DkOk (n + 5 * (f + 1)) k' := fun {m k1} hk1 hm => by
      obtain ⟨d', k', e, hs, hd'⟩ := other_ok hk1 (by omega) hb hM hX
      exact ⟨d', k', e, hs, hd'.mono (by omega)⟩
    by_cases ht : ∃ x0 r, d = .tup (x0 :: r)
    · obtain ⟨x0, r, rfl⟩ := ht
      have hd' : dpts (x0 :: r) < f := by simp only [dpt] at hd; omega
      have hpos' : 1 ≤ P := by have := hb.p; simp only [dpt] at this; omega
      have hw' : bks (x0 :: r) ≤ W := hb.w
      generalize hXs : (x0 :: r) = xs at *
      have hlen : xs.length ≤ X := hb.len
      have hpos : 0 < xs.length := by rw [← hXs]; simp
      have hne : xs.isEmpty = false := by rw [← hXs]; rfl
      obtain ⟨w, k1, e1, w1, w2, d1⟩ := draw_ok hk 6 ⟨by omega, by omega⟩ (by omega)
      by_cases c0 : w = 0
      · obtain ⟨d', k', e, hs, hd2⟩ := oth d1 (Nat.le_refl _)
        exact ⟨d', k', by simp! [hne, e1, c0, e], hs, hd2⟩
      · obtain ⟨j, k2, e2, j1, j2, d2⟩ := draw_ok d1 (xs.length : Int) ⟨by omega, by omega⟩ (by omega)
        have hj : j.toNat < xs.length := by omega
        have hm := List.getElem_mem hj
        have hwx := bks_mem hm
        have hbx : Bd M (bk xs[j.toNat]) (P - 1) X xs[j.toNat] := ⟨(hb.mem hm).l, Nat.le_refl _, (hb.mem hm).p, (hb.mem hm).x⟩
        obtain ⟨x', k3, e3, hs, d3⟩ := spoilt_ok f d2 (by omega) (d := xs[j.toNat]) (Nat.lt_of_le_of_lt (dpts_mem hm) hd') hbx hM hX
        have hx1 : gIx (.tup xs) (.int j) = some xs[j.toNat] := by
          have := WS.ix_tup (xs := xs) (n := j.toNat)
          rw [Int.toNat_of_nonneg j1] at this
          rw [this, List.getElem?_eq_getElem hj]
        have b1 : gSl (.tup xs) none (some j) = some (.tup (xs.take j.toNat)) := sl_to j1
        have b2 : gSl (.tup xs) (some (j + 1)) none = some (.tup (xs.drop (j + 1).toNat)) := sl_from (by omega)
        have l1 : (xs.take j.toNat).length ≤ xs.length := by rw [List.length_take]; omega
        have l2 : (xs.drop (j + 1).toNat).length ≤ xs.length := by rw [List.length_drop]; omega
        have l5 : (xs.take j.toNat).length + (xs.drop (j + 1).toNat).length + 1 = xs.length := by rw [List.length_take, List.length_drop]; omega
        have g1 : gAddB (.tup (xs.take j.toNat)) (.tup [x']) = some (.tup (xs.take j.toNat ++ [x'])) := r_addT (by simp; omega)
        have g2 : gAddB (.tup (xs.take j.toNat ++ [x'])) (.tup (xs.drop (j + 1).toNat)) = some (.tup (xs.take j.toNat ++ [x'] ++ xs.drop (j + 1).toNat)) := r_addT (by simp; omega)
        have e5 : bks xs = bks (xs.take j.toNat) + (bk xs[j.toNat] + 1 + bks (xs.drop (j.toNat + 1))) := by
          conv => lhs; rw [show xs = xs.take j.toNat ++ (xs[j.toNat] :: xs.drop (j.toNat + 1)) by rw [← List.drop_eq_getElem_cons hj, List.take_append_drop]]
          rw [bks_app]; rfl
        have e6 : (j + 1).toNat = j.toNat + 1 := by omega
        have hsw := hs.w
        have := bd_tup (M := M + 10 ^ 40) (W := 3 * W + 300) (P := P + 1) (X := 3 * X + 300) (xs := xs.take j.toNat ++ [x'] ++ xs.drop (j + 1).toNat) (fun d hd => by
            rcases List.mem_append.mp hd with q | q
            · rcases List.mem_append.mp q with q | q
              · exact (hb.mem (List.mem_of_mem_take q)).mono (by omega) (by omega) (by omega) (by omega)
              · rw [List.mem_singleton.mp q]; exact hs.mono (by omega) (by omega) (by omega) (by omega)
            · exact (hb.mem (List.mem_of_mem_drop q)).mono (by omega) (by omega) (by omega) (by omega)) (by
            rw [bks_app, bks_app, e6]
            simp only [bks]
            omega) (by simp only [List.length_append, List.length_cons, List.length_nil]; omega)
        exact ⟨.tup (xs.take j.toNat ++ [x'] ++ xs.drop (j + 1).toNat), k3, by simp! [hne, e1, c0, e2, hx1, b1, b2, e3, g1, g2], this, d3.mono (by omega)⟩
    · obtain ⟨d', k', e, hs, hd2⟩ := oth hk (by omega)
      refine ⟨d', k', ?_, hs, hd2⟩
      have h := hb.l
      cases d <;> first | (exact absurd h Bool.false_ne_true) | skip
      case tup xs =>
        cases xs with
        | nil => simp! [List.isEmpty_nil, e]
        | cons x r => exact absurd ⟨x, r, rfl⟩ ht
      all_goals simp! [e]
end W02
namespace W02
open PySem PySem.Spec PyProof.Rows L2 WS W01
theorem pick_ok {n : Nat} {k : Dk} (hk : DkOk n k) (hn : n < 100000000000) {xs : List D} {Q : D → Prop} (h : ∀ d ∈ xs, Q d) (h0 : 0 < xs.length) (h1 : xs.length ≤ 100000) :
    ∃ d k', F__law_pick [.deck, .lst xs] k = some (d, k') ∧ Q d ∧ DkOk (n + 1) k' := by
  obtain ⟨j, k1, e1, j1, j2, d1⟩ := draw_ok hk (xs.length : Int) ⟨by omega, by omega⟩ (by omega)
  obtain ⟨d, e2, hd⟩ := pick_at h j1 j2
  refine ⟨d, k1, ?_, hd, d1⟩
  unfold F__law_pick body__law_pick
  simp! [e1, e2]
/-- rows that make a program -/
structure RowsIs (m : Nat) (rows : List D) : Prop where
  n : rows.length = m
  r : ∀ d ∈ rows, RowIs m d
  e : ∃ d, rows.getLast? = some d ∧ endOk d = true
theorem RowsIs.bd {m : Nat} {rows : List D} (h : RowsIs m rows) : Bd 1000000 (31 * m + 30) 2 (m + 10) (.tup rows) := by
  have h1 : bks rows ≤ 31 * rows.length := bks_le fun d hd => (h.r d hd).b.w
  have hn := h.n
  exact bd_tup (P := 1) (fun d hd => (h.r d hd).b.mono (by omega) (by omega) (by omega) (by omega)) (by omega) (by omega)
theorem RowsIs.seq {m : Nat} {rows : List D} (h : RowsIs m rows) : seqy (.tup rows) = true := by
  simp only [seqy]
  exact seqys_mem.mpr fun d hd => (h.r d hd).s
theorem RowsIs.good {m : Nat} {rows : List D} (h : RowsIs m rows) (h1 : 1 ≤ m) (h2 : m ≤ 200) : refus (.tup rows) = none := by
  have hn := h.n
  have hb : firstBad rows = none := by
    unfold firstBad
    rw [List.findSome?_eq_none_iff]
    intro i hi
    simp [List.mem_range'] at hi
    have hr := (h.r rows[i] (List.getElem_mem hi)).ok
    rw [List.getD_eq_getElem?_getD, List.getElem?_eq_getElem hi, Option.getD_some, hn, if_pos hr]
  obtain ⟨d, e1, e2⟩ := h.e
  have hw : wrongOf rows = none := by
    unfold wrongOf
    rw [hb]
    simp only
    rw [List.getLastD_eq_getLast?, e1, Option.getD_some, if_pos e2]
  show (if 1 ≤ rows.length ∧ rows.length ≤ 200 then (wrongOf rows).map fun i : Nat => (i : Int) else some (-1)) = none
  rw [if_pos ⟨by omega, by omega⟩, hw]; rfl
theorem many_ok {n : Nat} {k : Dk} (hk : DkOk n k) (hn : n < 100000000000) : ∃ (m : Nat) (k' : Dk), F__law_many [.deck] k = some (.int (m : Int), k') ∧ 1 ≤ m ∧ m ≤ 200 ∧ DkOk (n + 3) k' := by
  obtain ⟨w, k1, e1, w1, w2, d1⟩ := draw_ok hk 8 ⟨by omega, by omega⟩ (by omega)
  obtain ⟨a, k2, e2, a1, a2, d2⟩ := draw_ok d1 12 ⟨by omega, by omega⟩ (by omega)
  obtain ⟨b, k3, e3, b1, b2, d3⟩ := draw_ok d2 2 ⟨by omega, by omega⟩ (by omega)
  unfold F__law_many body__law_many
  by_cases c : w = 5
  · refine ⟨(200 - b).toNat, k3, ?_, by omega, by omega, d3⟩
    have h1 : ∀ x y : D, gIx (.lst [x, y]) (.int 1) = some y := fun x y => WS.ix_lst (n := 1)
    have h2 : ((200 - b).toNat : Int) = 200 - b := Int.toNat_of_nonneg (by omega)
    simp! [e1, c, e2, e3, h1, h2]
  · refine ⟨(1 + a).toNat, k3, ?_, by omega, by omega, d3⟩
    have h1 : ∀ x y : D, gIx (.lst [x, y]) (.int 0) = some x := fun x y => WS.ix_lst (n := 0)
    have h2 : ((1 + a).toNat : Int) = 1 + a := Int.toNat_of_nonneg (by omega)
    simp! [e1, c, e2, e3, h1, h2]
theorem all2_right {α β : Type} {R : α → β → Prop} {Q : β → Prop} {as : List α} {bs : List β} (h : All2 R as bs) (hR : ∀ a b, R a b → Q b) : ∀ b ∈ bs, Q b := by
  induction h with
  | nil => intro b hb; simp at hb
  | cons h t ih =>
    intro b hb
    rcases List.mem_cons.mp hb with e | hb
    · subst e; exact hR _ _ h
    · exact ih b hb
theorem end_row {m : Int} {d : D} (h : PartIs m 1 d) : RowIs m (.tup [.str "end", d]) := row_is (ks := [1]) (by decide +kernel) (.cons h .nil) (by decide) (by decide)
theorem go_row {m i : Int} (h0 : 0 ≤ i) (h1 : i < 1000000) (h2 : i < m) : RowIs m (.tup [.str "go", .int i]) := row_is (ks := [2]) (by decide +kernel) (.cons (int_part h0 h1 (by omega) fun _ => h2) .nil) (by decide) (by decide)
theorem rows_ok {n : Nat} {k : Dk} (hk : DkOk n k) (hn : n < 100000000) {m : Nat} (h1 : 1 ≤ m) (h2 : m ≤ 200) : ∃ rows k', F__law_rows [.deck, .int (m : Int)] k = some (.tup rows, k') ∧ RowsIs m rows ∧ DkOk (n + 7000) k' := by
  have hr : gRange1 [.int ((m : Int) - 1)] = some (rangeD 0 (m - 1) 1) := by
    rw [r_range1 ⟨by omega, by omega⟩, show ((m : Int) - 1).toNat = m - 1 by omega]
  obtain ⟨es, k1, e1, q2, d1⟩ := comp_runN (vs := [4]) (g := gSet 4) (tt := eC (.bl true)) (elt := eCallF 2 W01.F__law_row (aCons (eVar 0) (aCons (eVar 1) (aNil)))) (ρ := [.val .deck, .val (.int (m : Int)), .no, .no, .no])
    (fun i k => DkOk (n + 30 * i) k) (fun _ e => RowIs m e) (rangeD 0 (m - 1) 1) 0 k hk (fun i d hd k hI => by
      have hi : i < m - 1 := by
        have := (List.getElem?_eq_some_iff.mp hd).1
        rwa [rangeD_len] at this
      obtain ⟨e, k2, e3, hp, d2⟩ := row_ok hI (by omega) (m := (m : Int)) ⟨by omega, by omega⟩
      exact ⟨_, _, [.val .deck, .val (.int (m : Int)), .no, .no, .val d], e, k2, rfl, rfl, by simp! [e3], rfl, hp, d2.mono (by omega)⟩)
  rw [rangeD_len] at d1
  have hl : es.length = m - 1 := by rw [← q2.length, rangeD_len]
  have hes := all2_right q2 (Q := RowIs m) fun _ _ h => h
  obtain ⟨p, k2, e2, hp, d2⟩ := part_ok d1 (by omega) (κ := 1) (by omega) (m := (m : Int)) ⟨by omega, by omega⟩
  obtain ⟨i, k3, e3, i1, i2, d3⟩ := draw_ok d2 (m : Int) ⟨by omega, by omega⟩ (by omega)
  obtain ⟨z, k4, e4, ⟨hz1, hz2⟩, d4⟩ := pick_ok d3 (by omega) (xs := [.tup [.str "end", p], .tup [.str "go", .int i]]) (Q := fun z => RowIs m z ∧ endOk z = true) (fun d hd => by
    simp only [List.mem_cons, List.not_mem_nil, or_false] at hd
    rcases hd with rfl | rfl
    · exact ⟨end_row hp, by show (decide (("end" : Str) = "end") || decide (("end" : Str) = "go")) = true; decide +kernel⟩
    · exact ⟨go_row i1 (by omega) i2, by show (decide (("go" : Str) = "end") || decide (("go" : Str) = "go")) = true; decide +kernel⟩) (by simp) (by simp)
  have hx : F__law_part [.deck, .str "x", .int (m : Int)] k1 = some (p, k2) := by
    have : kindC 1 = .str "x" := rfl
    rw [← this]; exact e2
  have g1 : gAddB (.tup es) (.tup [z]) = some (.tup (es ++ [z])) := r_addT (by simp; omega)
  have hsl : (rangeD 0 (m - 1) 1).length < sizeLine := by rw [rangeD_len, sizeLine_eq]; omega
  refine ⟨es ++ [z], k4, ?_, ⟨by rw [List.length_append, hl]; simp; omega, fun d hd => ?_, z, by simp, hz2⟩, d4.mono (by omega)⟩
  · unfold F__law_rows body__law_rows
    simp! [hr, hsl, e1, hx, e3, e4, g1]
  · rcases List.mem_append.mp hd with q | q
    · exact hes d q
    · rw [List.mem_singleton.mp q]; exact hz1
end W02
namespace W02
open PySem PySem.Spec PyProof.Rows L2 WS W01
/-- rows with something otherwise -/
abbrev Tn (m : Nat) (d : D) : Prop := Bd 1000000 (70 * m + 200) 2 (2 * m + 100) d
theorem tn_of {m : Nat} {rows : List D} (h : ∀ d ∈ rows, Bd 1000000 30 1 10 d) (hl : rows.length ≤ m + 1) : Tn m (.tup rows) := by
  have h1 : bks rows ≤ 31 * rows.length := bks_le fun d hd => (h d hd).w
  exact bd_tup (P := 1) (fun d hd => (h d hd).mono (by omega) (by omega) (by omega) (by omega)) (by omega) (by omega)
theorem go_b {m : Nat} (h : m ≤ 200) : Bd 1000000 30 1 10 (.tup [.str "go", .int (m : Int)]) :=
  bd_tup (P := 0) (fun d hd => by
    simp only [List.mem_cons, List.not_mem_nil, or_false] at hd
    rcases hd with rfl | rfl
    · exact bd_str (by decide) (by decide) (by decide)
    · exact bd_int (by omega)) (by simp only [bks, bk]; decide) (by simp)
theorem same_b {m : Nat} (h : m ≤ 200) : Bd 1000000 30 1 10 (.tup [.str "same", .str "a", .int 0, .int (m : Int)]) :=
  bd_tup (P := 0) (fun d hd => by
    simp only [List.mem_cons, List.not_mem_nil, or_false] at hd
    rcases hd with rfl | rfl | rfl | rfl
    · exact bd_str (by decide) (by decide) (by decide)
    · exact bd_str (by decide) (by decide) (by decide)
    · exact bd_int (Nat.zero_le _)
    · exact bd_int (by omega)) (by simp only [bks, bk]; decide) (by simp)
theorem turned_ok {n : Nat} {k : Dk} (hk : DkOk n k) (hn : n < 100000000) {m : Nat} {rows : List D} (hR : RowsIs m rows) (h1 : 1 ≤ m) (h2 : m ≤ 200) :
    ∃ d k', F__law_turned [.deck, .tup rows] k = some (d, k') ∧ Tn m d ∧ DkOk (n + 40) k' := by
  obtain ⟨w, k1, e1, w1, w2, d1⟩ := draw_ok hk 6 ⟨by omega, by omega⟩ (by omega)
  have hlen := hR.n
  obtain ⟨j, k2, e2, j1, j2, d2⟩ := draw_ok d1 (rows.length : Int) ⟨by omega, by omega⟩ (by omega)
  obtain ⟨r, k3, e3, hr, d3⟩ := row_ok d2 (by omega) (m := (rows.length : Int)) ⟨by omega, by omega⟩
  have hb : ∀ d ∈ rows, Bd 1000000 30 1 10 d := fun d hd => (hR.r d hd).b
  have hj : j.toNat < rows.length := by omega
  have b1 : gSl (.tup rows) none (some j) = some (.tup (rows.take j.toNat)) := sl_to j1
  have b2 : gSl (.tup rows) (some (j + 1)) none = some (.tup (rows.drop (j + 1).toNat)) := sl_from (by omega)
  have b3 : gSl (.tup rows) none (some (j + 1)) = some (.tup (rows.take (j + 1).toNat)) := sl_to (by omega)
  have b4 : gSl (.tup rows) (some j) none = some (.tup (rows.drop j.toNat)) := sl_from j1
  have b5 : ∃ ys, gSl (.tup rows) none (some (-1)) = some (.tup ys) ∧ (∀ d ∈ ys, d ∈ rows) ∧ ys.length ≤ rows.length := by
    refine ⟨WS.cutD rows none (some (-1)), rfl, fun d hd => ?_, ?_⟩
    · unfold WS.cutD at hd
      exact List.mem_of_mem_drop (List.mem_of_mem_take hd)
    · unfold WS.cutD
      rw [List.length_take, List.length_drop]; omega
  obtain ⟨ys, b5, hys, hyl⟩ := b5
  have l1 : (rows.take j.toNat).length ≤ rows.length := by rw [List.length_take]; omega
  have l2 : (rows.drop (j + 1).toNat).length ≤ rows.length := by rw [List.length_drop]; omega
  have l3 : (rows.take (j + 1).toNat).length ≤ rows.length := by rw [List.length_take]; omega
  have l4 : (rows.drop j.toNat).length ≤ rows.length := by rw [List.length_drop]; omega
  have l5 : (rows.take j.toNat).length + (rows.drop (j + 1).toNat).length + 1 = rows.length := by rw [List.length_take, List.length_drop]; omega
  have l6 : (rows.take (j + 1).toNat).length + (rows.drop j.toNat).length = rows.length + 1 := by rw [List.length_take, List.length_drop]; omega
  have g1 : gAddB (.tup (rows.take j.toNat)) (.tup (rows.drop (j + 1).toNat)) = some (.tup (rows.take j.toNat ++ rows.drop (j + 1).toNat)) := r_addT (by omega)
  have g2 : gAddB (.tup (rows.take (j + 1).toNat)) (.tup (rows.drop j.toNat)) = some (.tup (rows.take (j + 1).toNat ++ rows.drop j.toNat)) := r_addT (by omega)
  have g3 : gAddB (.tup ys) (.tup [r]) = some (.tup (ys ++ [r])) := r_addT (by simp; omega)
  have g4 : ∀ x : D, gAddB (.tup (rows.take j.toNat)) (.tup [x]) = some (.tup (rows.take j.toNat ++ [x])) := fun x => r_addT (by simp; omega)
  have g5 : ∀ x : D, gAddB (.tup (rows.take j.toNat ++ [x])) (.tup (rows.drop (j + 1).toNat)) = some (.tup (rows.take j.toNat ++ [x] ++ rows.drop (j + 1).toNat)) := fun x => r_addT (by simp; omega)
  have far : ∀ x, Bd 1000000 30 1 10 x → Tn m (.tup (rows.take j.toNat ++ [x] ++ rows.drop (j + 1).toNat)) := fun x hx => tn_of (fun d hd => by
    rcases List.mem_append.mp hd with q | q
    · rcases List.mem_append.mp q with q | q
      · exact hb d (List.mem_of_mem_take q)
      · rw [List.mem_singleton.mp q]; exact hx
    · exact hb d (List.mem_of_mem_drop q)) (by simp only [List.length_append, List.length_cons, List.length_nil]; omega)
  obtain ⟨d', e4, hs⟩ := pick_at (xs := [.tup (rows.take j.toNat ++ rows.drop (j + 1).toNat), .tup (rows.take (j + 1).toNat ++ rows.drop j.toNat), .tup rows.reverse, .tup (ys ++ [r]),
      .tup (rows.take j.toNat ++ [.tup [.str "go", .int (rows.length : Int)]] ++ rows.drop (j + 1).toNat), .tup (rows.take j.toNat ++ [.tup [.str "same", .str "a", .int 0, .int (rows.length : Int)]] ++ rows.drop (j + 1).toNat)]) (P := Tn m) (by
    intro d hd
    simp only [List.mem_cons, List.not_mem_nil, or_false] at hd
    rcases hd with rfl | rfl | rfl | rfl | rfl | rfl
    · exact tn_of (fun d hd => by
        rcases List.mem_append.mp hd with q | q
        · exact hb d (List.mem_of_mem_take q)
        · exact hb d (List.mem_of_mem_drop q)) (by rw [List.length_append]; omega)
    · exact tn_of (fun d hd => by
        rcases List.mem_append.mp hd with q | q
        · exact hb d (List.mem_of_mem_take q)
        · exact hb d (List.mem_of_mem_drop q)) (by rw [List.length_append]; omega)
    · exact tn_of (fun d hd => hb d (List.mem_reverse.mp hd)) (by rw [List.length_reverse]; omega)
    · exact tn_of (fun d hd => by
        rcases List.mem_append.mp hd with q | q
        · exact hb d (hys d q)
        · rw [List.mem_singleton.mp q]; exact hr.b) (by simp only [List.length_append, List.length_cons, List.length_nil]; omega)
    · exact far _ (go_b (by omega))
    · exact far _ (same_b (by omega))) w1 (by simpa using w2)
  refine ⟨d', k3, ?_, hs, d3.mono (by omega)⟩
  unfold F__law_turned body__law_turned L1__law_turned
  simp! [e1, e2, e3, b1, b2, b3, b4, b5, g1, g2, g3, g4, g5, for_cons, for_nil, small_line, small_lineE, List.cons_append, List.nil_append, e4]
end W02
namespace W02
open PySem PySem.Spec PyProof.Rows L2 WS W01
def progD (rows : List D) : D := .ins "Program" ["rows"] [.tup rows]
theorem prog_made {m : Nat} {rows : List D} (h : RowsIs m rows) (h1 : 1 ≤ m) (h2 : m ≤ 200) (k : Dk) : F_Program [.tup rows] k = some (.ok (progD rows), k) := by
  have hb := h.bd
  have h3 := prog_ok k (plain_lf hb.l) (Nat.le_trans hb.x (by omega))
  unfold progR at h3
  rw [h.good h1 h2] at h3
  exact h3
theorem again_ok {n : Nat} {k : Dk} (hk : DkOk n k) (hn : n < 10000000) {m : Nat} {rows : List D} (hR : RowsIs m rows) (h1 : 1 ≤ m) (h2 : m ≤ 200) (a0 a2 a5 a6 a7 : Sl) :
    ∃ b6 b7 k', L1_law [a0, .val .deck, a2, .val (.tup rows), .val (progD rows), a5, a6, a7] k = some (.nx, [a0, .val .deck, a2, .val (.tup rows), .val (progD rows), a5, b6, b7], k') ∧ DkOk (n + 200) k' := by
  obtain ⟨w, k1, e1, w1, w2, d1⟩ := draw_ok hk 3 ⟨by omega, by omega⟩ (by omega)
  have hne : gNeE (.tup rows) (.tup rows) = some (.bl false) := neE_self hR.seq (Nat.le_trans hR.bd.p (by omega))
  have hfl : gFld ["Program"] "rows" (progD rows) = some (.tup rows) := l_rows_Program
  have hb := hR.bd
  unfold L1_law
  by_cases c0 : w = 0
  · obtain ⟨d, k2, e2, hd, d2⟩ := turned_ok d1 (by omega) hR h1 h2
    have hA : AskP d := .of hd (by decide) (by omega) (by omega) (by omega)
    refine ⟨_, _, k2, by simp! [e1, c0, e2, right_ok hA, hfl, hne]; rfl, d2.mono (by omega)⟩
  · obtain ⟨d, k2, e2, hd, d2⟩ := spoilt_ok 12 d1 (by omega) (d := .tup rows) (by have := hb.p; omega) hb (by decide) (by omega)
    by_cases c1 : w = 1
    · obtain ⟨d', k3, e3, hd', d3⟩ := spoilt_ok 12 d2 (by omega) (d := d) (by have := hd.p; omega) hd (by decide) (by omega)
      have hA : AskP d' := .of hd' (by decide) (by omega) (by omega) (by omega)
      refine ⟨_, _, k3, by simp! [e1, c1, e2, e3, right_ok hA, hfl, hne]; rfl, d3.mono (by omega)⟩
    · have hA : AskP d := .of hd (by decide) (by omega) (by omega) (by omega)
      refine ⟨_, _, k2, by simp! [e1, c0, c1, e2, right_ok hA, hfl, hne]; rfl, d2.mono (by omega)⟩
theorem r6 : gRange1 [.int 6] = some (rangeD 0 6 1) := r_range1 (j := 6) ⟨by omega, by omega⟩
theorem r4 : gRange1 [.int 4] = some (rangeD 0 4 1) := r_range1 (j := 4) ⟨by omega, by omega⟩
theorem turn_ok {n : Nat} {k : Dk} (hk : DkOk n k) (hn : n < 1000000) (a0 a2 a3 a4 a5 a6 a7 : Sl) :
    ∃ b3 b4 b5 b6 b7 k', L2_law [a0, .val .deck, a2, a3, a4, a5, a6, a7] k = some (.nx, [a0, .val .deck, a2, b3, b4, b5, b6, b7], k') ∧ DkOk (n + 9000) k' := by
  obtain ⟨m, k1, e1, m1, m2, d1⟩ := many_ok hk (by omega)
  obtain ⟨rows, k2, e2, hR, d2⟩ := rows_ok d1 (by omega) m1 m2
  have hb := hR.bd
  have hA : AskP (.tup rows) := .of hb (by decide) (by omega) (by omega) (by omega)
  have hne : gNeE (.tup rows) (.tup rows) = some (.bl false) := neE_self hR.seq (Nat.le_trans hb.p (by omega))
  have hfl : gFld ["Program"] "rows" (progD rows) = some (.tup rows) := l_rows_Program
  have hp : prm [0] [D.tup rows] = [.tup rows] := rfl
  obtain ⟨ρ', k3, e3, ⟨b5, b6, b7, rfl, d3⟩⟩ := for_inv (g := gSet 5) (body := L1_law) (fun i ρ k => ∃ b5 b6 b7, ρ = [a0, .val .deck, a2, .val (.tup rows), .val (progD rows), b5, b6, b7] ∧ DkOk (n + 3 + 7000 + 200 * i) k)
    (rangeD 0 6 1) 0 [a0, .val .deck, a2, .val (.tup rows), .val (progD rows), a5, a6, a7] k2 ⟨_, _, _, rfl, d2⟩ (fun i d hd ρ k ⟨b5, b6, b7, e, hk⟩ => by
      subst e
      obtain ⟨hi, rfl⟩ := rangeD_at hd
      obtain ⟨c6, c7, k', e, hk'⟩ := again_ok hk (by omega) hR m1 m2 a0 a2 (.val (.int (i : Int))) b6 b7
      exact ⟨_, _, k', rfl, e, _, _, _, rfl, hk'.mono (by omega)⟩)
  rw [rangeD_len] at d3
  refine ⟨.val (.tup rows), .val (progD rows), b5, b6, b7, k3, ?_, d3.mono (by omega)⟩
  unfold L2_law
  simp! [e1, e2, ap_xCallK, List.nil_append, hp, prog_made hR m1 m2, hfl, hne, right_ok hA, r6, e3]
theorem law_true (ns : List Int) : ∃ k', F_law [.rdl (ns.map D.int)] none = some (.bl true, k') := by
  obtain ⟨k1, e1, d1⟩ : ∃ k1, F_deck [.rdl (ns.map D.int)] none = some (.deck, k1) ∧ DkOk 0 k1 := deck_ok ns
  obtain ⟨ρ', k', e3, ⟨b2, b3, b4, b5, b6, b7, rfl, d3⟩⟩ := for_inv (g := gSet 2) (body := L2_law) (fun i ρ k => ∃ b2 b3 b4 b5 b6 b7, ρ = [.val (.rdl (ns.map D.int)), .val .deck, b2, b3, b4, b5, b6, b7] ∧ DkOk (9000 * i) k)
    (rangeD 0 4 1) 0 [.val (.rdl (ns.map D.int)), .val .deck, .no, .no, .no, .no, .no, .no] k1 ⟨_, _, _, _, _, _, rfl, d1⟩ (fun i x hx ρ k ⟨b2, b3, b4, b5, b6, b7, e, hk⟩ => by
      subst e
      obtain ⟨hi, rfl⟩ := rangeD_at hx
      obtain ⟨c3, c4, c5, c6, c7, k', e, hk'⟩ := turn_ok hk (by omega) (.val (.rdl (ns.map D.int))) (.val (.int (i : Int))) b3 b4 b5 b6 b7
      exact ⟨_, _, k', rfl, e, _, _, _, _, _, _, rfl, hk'.mono (by omega)⟩)
  refine ⟨k', ?_⟩
  unfold F_law body_law
  simp! [e1, r4, e3]
end W02
namespace W03
open PySem PySem.Spec PyProof.Rows L2 WS W01 W02
/-- a thing with a wrong row at a place -/
theorem firstBad_at {pre post : List D} {x : D} (h : ∀ d ∈ pre, rowOf ((pre ++ x :: post).length : Nat) d = true) (hx : rowOf ((pre ++ x :: post).length : Nat) x = false) : firstBad (pre ++ x :: post) = some pre.length := by
  unfold firstBad
  generalize hm : (((pre ++ x :: post).length : Nat) : Int) = m at *
  have key : ∀ (a b : List D), a ++ b = pre ++ x :: post → (List.range' a.length b.length).findSome? (fun i => if rowOf m ((pre ++ x :: post).getD i .non) then none else some i) = some pre.length ∨ pre.length < a.length := by
    intro a b hab
    induction b generalizing a with
    | nil =>
      right
      have := congrArg List.length hab
      simp at this
      omega
    | cons y r ih =>
      by_cases hl : pre.length < a.length
      · exact .inr hl
      · left
        rw [List.length_cons, List.range'_succ, List.findSome?_cons]
        have hy : (pre ++ x :: post).getD a.length .non = y := by
          rw [← hab, List.getD_eq_getElem?_getD, List.getElem?_append_right (Nat.le_refl _), Nat.sub_self]; rfl
        rw [hy]
        by_cases he : a.length = pre.length
        · have : y = x := by
            have h1 : (pre ++ x :: post)[a.length]? = some y := by
              rw [← hab, List.getElem?_append_right (Nat.le_refl _), Nat.sub_self]; rfl
            rw [he, List.getElem?_append_right (Nat.le_refl _), Nat.sub_self] at h1
            simpa using h1.symm
          subst this
          simp only [hx, Bool.false_eq_true, if_false, he]
        · have hlt : a.length < pre.length := by omega
          have hmem : y ∈ pre := by
            have h1 : (pre ++ x :: post)[a.length]? = some y := by
              rw [← hab, List.getElem?_append_right (Nat.le_refl _), Nat.sub_self]; rfl
            rw [List.getElem?_append_left hlt] at h1
            exact List.mem_of_getElem? h1
          simp only [h y hmem, if_true]
          rcases ih (a ++ [y]) (by simpa using hab) with q | q
          · rw [List.length_append] at q
            exact q
          · rw [List.length_append, List.length_singleton] at q
            omega
  rcases key [] (pre ++ x :: post) rfl with q | q
  · exact q
  · simp at q
theorem refus_at {pre post : List D} {x : D} (hl : (pre ++ x :: post).length ≤ 200) (h : ∀ d ∈ pre, rowOf ((pre ++ x :: post).length : Nat) d = true) (hx : rowOf ((pre ++ x :: post).length : Nat) x = false) : refus (.tup (pre ++ x :: post)) = some (pre.length : Int) := by
  show (if 1 ≤ (pre ++ x :: post).length ∧ (pre ++ x :: post).length ≤ 200 then (wrongOf (pre ++ x :: post)).map fun i : Nat => (i : Int) else some (-1)) = _
  rw [if_pos ⟨by rw [List.length_append, List.length_cons]; omega, hl⟩]
  unfold wrongOf
  rw [firstBad_at h hx]; rfl
theorem refus_long {rows : List D} (h : 200 < rows.length) : refus (.tup rows) = some (-1) := if_neg fun z => by omega
theorem firstBad_none {rows : List D} (h : ∀ d ∈ rows, rowOf (rows.length : Nat) d = true) : firstBad rows = none := by
  unfold firstBad
  rw [List.findSome?_eq_none_iff]
  intro i hi
  simp [List.mem_range'] at hi
  rw [List.getD_eq_getElem?_getD, List.getElem?_eq_getElem hi, Option.getD_some, if_pos (h _ (List.getElem_mem hi))]
/-- all rows, but the last one no end -/
theorem refus_last {rows : List D} {x : D} (hl : (rows ++ [x]).length ≤ 200) (h : ∀ d ∈ rows ++ [x], rowOf ((rows ++ [x]).length : Nat) d = true) (hx : endOk x = false) : refus (.tup (rows ++ [x])) = some ((rows ++ [x]).length : Int) := by
  show (if 1 ≤ (rows ++ [x]).length ∧ (rows ++ [x]).length ≤ 200 then (wrongOf (rows ++ [x])).map fun i : Nat => (i : Int) else some (-1)) = _
  rw [if_pos ⟨by rw [List.length_append]; simp, hl⟩]
  unfold wrongOf
  rw [firstBad_none h]
  have : (rows ++ [x]).getLastD .non = x := by rw [List.getLastD_eq_getLast?]; simp
  simp only [this, hx, Bool.false_eq_true, if_false, Option.map_some]
theorem refus_good {rows : List D} {x : D} (hl : (rows ++ [x]).length ≤ 200) (h : ∀ d ∈ rows ++ [x], rowOf ((rows ++ [x]).length : Nat) d = true) (hx : endOk x = true) : refus (.tup (rows ++ [x])) = none := by
  show (if 1 ≤ (rows ++ [x]).length ∧ (rows ++ [x]).length ≤ 200 then (wrongOf (rows ++ [x])).map fun i : Nat => (i : Int) else some (-1)) = _
  rw [if_pos ⟨by rw [List.length_append]; simp, hl⟩]
  unfold wrongOf
  rw [firstBad_none h]
  have : (rows ++ [x]).getLastD .non = x := by rw [List.getLastD_eq_getLast?]; simp
  simp only [this, hx, if_true, Option.map_none]
/-! ### refused -/
theorem refD_repr {i : Int} (h : i.natAbs ≤ 1000) : ∃ x, gRepr [.tup [clsD, .int i]] = some (.str x) := by
  refine repr_bk (M := 10 ^ 55) ?_ (Nat.le_refl _) ?_ ?_
  · have h9 : (1000 : Nat) ≤ 10 ^ 55 := by decide
    simp only [clsD, lf, lfs, Bool.and_true, Bool.true_and, decide_eq_true_eq]; omega
  · show (9 + 1 + (0 + 1 + 0)) ≤ 160000
    omega
  · show max (max 0 _ + 1) (max 0 0) + 1 ≤ 60
    decide
theorem refused_of {d : D} {i : Int} {x : Str} (k : Dk) (hi : i.natAbs ≤ 1000) (hx : gRepr [d] = some (.str x)) (hm : F__law_made [d] k = some (.tup [clsD, .int i], k)) : F__law_refused [d, .int i] k = some (.bl true, k) := by
  obtain ⟨y, hy⟩ := refD_repr hi
  have hy' : gRepr [.tup [.lst [.bl true, .bl false, .bl false, .bl false, .bl false, .bl false, .bl true, .bl true, .bl false], .int i]] = some (.str y) := hy
  unfold F__law_refused body__law_refused
  simp! [hx, hm, hy, hy']
theorem refused_ok {d : D} (h : AskP d) {i : Int} (hi : i.natAbs ≤ 1000) (hr : refus d = some i) (k : Dk) : F__law_refused [d, .int i] k = some (.bl true, k) := by
  obtain ⟨x, hx⟩ := h.repr
  have h1 := made_ok k h.plain h.x
  unfold dueD at h1
  rw [hr] at h1
  exact refused_of k hi hx h1
/-- a dict is no tuple -/
theorem refused_dict {e : D} (he : Bd 1000000 30 1 10 e) (k : Dk) : F__law_refused [.dct [.inl 0] [e], .int (-1)] k = some (.bl true, k) := by
  have hm1 : ∀ {α : Type} (o : α), rz okDI (.int (-1)) o = some o := fun o => rz_int (by decide)
  have hp : F_Program [.dct [.inl 0] [e]] k = some (.ex "NoProgram" ["row"] [.int (-1)], k) := by
    unfold F_Program mkF
    refine allA_eq fun p => ?_
    unfold I_Program
    rw [ap_runI]
    unfold front_Program
    simp! [hm1, finI_ex]
  have hm : F__law_made [.dct [.inl 0] [e]] k = some (.tup [clsD, .int (-1)], k) := by
    unfold F__law_made body__law_made
    simp! [hp, tr_yes y_NoProgram_NoProgram, classes_ok, l_row_NoProgram]
  obtain ⟨p, h1, h2, h3, h4, h5⟩ := toR_lf (by decide) he.l
  have h7 := toR_bk (by decide) he.l p h1
  have hw := he.w
  have hd := he.p
  have hr : toR (.dct [.inl 0] [e]) = some (.dict [(.int 0, p)]) := by simp only [toR, toRs, h1, Option.bind_some, Option.map_some]; rfl
  have hsh : (PyData.dict [(.int 0, p)]).showable = true := by
    simp only [PyData.showable, PyData.showableKv, h2, Bool.and_true]; decide
  refine refused_of k (by decide) (x := (PyData.dict [(.int 0, p)]).shown) ?_ hm
  show ((toR (.dct [.inl 0] [e])).bind fun p => if p.showable = true ∧ p.depth ≤ 60 ∧ p.shown.length ≤ sizeLine then some (D.str p.shown) else none) = _
  rw [hr, Option.bind_some, if_pos]
  refine ⟨hsh, ?_, ?_⟩
  · simp only [PyData.depth, PyData.depthKv]; omega
  · have h6 := PyData.shown_le_bulk 60 (by omega) (.dict [(.int 0, p)]) (by simp only [PyData.leavesShort, PyData.leavesShortKv, h5, Bool.and_true]; decide)
    simp only [PyData.bulk, PyData.bulkKv] at h6
    rw [sizeLine_eq]; omega
def deepD : Nat → D
  | 0 => .tup []
  | n + 1 => .tup [deepD n]
theorem deep_ok (k : Dk) : F__law_deep [.int 18] k = some (deepD 18, k) := by kernel_rfl!
/-- by a check -/
def askC (d : D) : Bool := lf (10 ^ 40) d && decide (bk d ≤ 100000) && decide (dpt d ≤ 50) && decide (mx d ≤ 9000)
theorem askC_of {d : D} (h : askC d = true) : AskP d := by
  unfold askC at h
  simp only [Bool.and_eq_true, decide_eq_true_eq] at h
  exact ⟨⟨_, h.1.1.1, by decide⟩, h.1.1.2, h.1.2, h.2⟩
theorem deep_row : isRow (deepD 18) = false := rfl
theorem deep_bd : Bd (10 ^ 40) 100 20 20 (deepD 18) := ⟨by decide +kernel, by decide +kernel, by decide +kernel, by decide +kernel⟩
end W03
namespace WS
open PySem PySem.Spec PyProof.Rows L2
theorem for_all {g : Tg} {body : SS} {k : Dk} (I : List Sl → Prop) : ∀ (ds : List D) (ρ : List Sl), I ρ → (∀ d ∈ ds, ∀ ρ, I ρ → ∃ ρ1 ρ2, g d ρ = some ρ1 ∧ body ρ1 k = some (.nx, ρ2, k) ∧ I ρ2) → ∃ ρ', sForGo g body ds ρ k = some (.nx, ρ', k) ∧ I ρ'
  | [], ρ, hI, _ => ⟨ρ, for_nil, hI⟩
  | d :: ds, ρ, hI, h => by
    obtain ⟨ρ1, ρ2, e1, e2, e3⟩ := h d (by simp) ρ hI
    obtain ⟨ρ', q1, q2⟩ := for_all I ds ρ2 e3 fun d' hd => h d' (by simp [hd])
    exact ⟨ρ', by rw [for_cons, e1, bnd_some, e2, bnd_some, fo_nx]; exact q1, q2⟩
/-- .. with draws -/
theorem for_dr {g : Tg} {body : SS} (I : List Sl → Prop) (c : Nat) (P : D → Prop) : ∀ (ds : List D) (ρ : List Sl) (n : Nat) (k : Dk), I ρ → DkOk n k → (∀ d ∈ ds, P d) → (∀ d m k ρ, P d → m + c ≤ n + c * ds.length → DkOk m k → I ρ → ∃ ρ1 ρ2 k', g d ρ = some ρ1 ∧ body ρ1 k = some (.nx, ρ2, k') ∧ I ρ2 ∧ DkOk (m + c) k') →
    ∃ ρ' k', sForGo g body ds ρ k = some (.nx, ρ', k') ∧ I ρ' ∧ DkOk (n + c * ds.length) k'
  | [], ρ, n, k, hI, hk, _, _ => ⟨ρ, k, for_nil, hI, hk⟩
  | d :: ds, ρ, n, k, hI, hk, hP, h => by
    have e : c * (ds.length + 1) = c * ds.length + c := Nat.mul_succ _ _
    obtain ⟨ρ1, ρ2, k', e1, e2, e3, e4⟩ := h d n k ρ (hP d (by simp)) (by rw [List.length_cons]; omega) hk hI
    obtain ⟨ρ', k'', q1, q2, q3⟩ := for_dr I c P ds ρ2 (n + c) k' e3 e4 (fun d' hd => hP d' (by simp [hd])) fun d' m k ρ hd hm => h d' m k ρ hd (by rw [List.length_cons]; omega)
    exact ⟨ρ', k'', by rw [for_cons, e1, bnd_some, e2, bnd_some, fo_nx]; exact q1, q2, q3.mono (by rw [List.length_cons]; omega)⟩
theorem cut_last {xs : List D} {y : D} : gSl (.tup (xs ++ [y])) none (some (-1)) = some (.tup xs) := by
  show some (D.tup (WS.cutD (xs ++ [y]) none (some (-1)))) = _
  congr 2
  unfold WS.cutD
  have e1 : HT.sIx (xs ++ [y]).length 0 none = 0 := rfl
  have e2 : HT.sIx (xs ++ [y]).length (xs ++ [y]).length (some (-1)) = xs.length := by
    unfold HT.sIx
    simp only
    rw [if_pos (by decide), List.length_append, List.length_singleton]; omega
  rw [e1, e2]; simp
end WS
namespace W03
open PySem PySem.Spec PyProof.Rows L2 WS W01 W02
section
variable {n : Int}
abbrev endD (n : Int) : D := .tup [.str "end", .int n]
theorem end_is (h0 : 0 ≤ n) (h1 : n < 1000000) (m : Int) : RowIs m (endD n) := end_row (int_part h0 h1 (by omega) (by omega))
theorem rep_bd {m : Nat} {x : D} {ys : List D} (hm : m ≤ 1000) (hx : Bd 1000000 30 1 10 x) (hy : ∀ d ∈ ys, Bd (10 ^ 40) 200 20 20 d) (hl : ys.length ≤ 210) : AskP (.tup (List.replicate m x ++ ys)) := by
  have h1 : bks (List.replicate m x) ≤ 31 * (List.replicate m x).length := bks_le fun d hd => by rw [List.eq_of_mem_replicate hd]; exact hx.w
  have h2 : bks ys ≤ 201 * ys.length := bks_le fun d hd => (hy d hd).w
  rw [List.length_replicate] at h1
  have := bd_tup (M := 10 ^ 40) (W := 100000) (P := 20) (X := 9000) (xs := List.replicate m x ++ ys) (fun d hd => by
    rcases List.mem_append.mp hd with q | q
    · rw [List.eq_of_mem_replicate q]; exact hx.mono (by decide) (by omega) (by omega) (by omega)
    · exact (hy d q).mono (by omega) (by omega) (by omega) (by omega)) (by rw [bks_app]; omega) (by rw [List.length_append, List.length_replicate]; omega)
  exact .of this (by decide) (by omega) (by omega) (by omega)
theorem end_b (h0 : 0 ≤ n) (h1 : n < 1000000) : Bd (10 ^ 40) 200 20 20 (endD n) := (end_is h0 h1 1).b.mono (by decide) (by omega) (by omega) (by omega)
/-- things that are none -/
theorem l4_ok (h0 : 0 ≤ n) (h1 : n < 1000000) {d : D} (hd : d ∈ [D.non, .bl true, .bl false, .int 0, .int 7, .int (-1), .int (10 ^ 39), .str "", .str "end a", .lst [], .lst [endD n], .dct [] [], .dct [.inl 0] [endD n], .tup []]) (k : Dk) : F__law_refused [d, .int (-1)] k = some (.bl true, k) := by
  have hr : ∀ {d : D}, AskP d → refus d = some (-1) → F__law_refused [d, .int (-1)] k = some (.bl true, k) := fun h q => refused_ok h (by decide) q k
  simp only [List.mem_cons, List.not_mem_nil, or_false] at hd
  rcases hd with rfl | rfl | rfl | rfl | rfl | rfl | rfl | rfl | rfl | rfl | rfl | rfl | rfl | rfl
  · exact hr (askC_of (by decide +kernel)) rfl
  · exact hr (askC_of (by decide +kernel)) rfl
  · exact hr (askC_of (by decide +kernel)) rfl
  · exact hr (askC_of (by decide +kernel)) rfl
  · exact hr (askC_of (by decide +kernel)) rfl
  · exact hr (askC_of (by decide +kernel)) rfl
  · exact hr (askC_of (by decide +kernel)) rfl
  · exact hr (askC_of (by decide +kernel)) rfl
  · exact hr (askC_of (by decide +kernel)) rfl
  · exact hr (askC_of (by decide +kernel)) rfl
  · exact hr (.of (bd_oneL (end_b h0 h1)) (by decide) (by omega) (by omega) (by omega)) rfl
  · exact hr (askC_of (by decide +kernel)) rfl
  · exact refused_dict (end_is h0 h1 1).b k
  · exact hr (askC_of (by decide +kernel)) rfl
/-- too many rows -/
theorem l3_ok (h0 : 0 ≤ n) (h1 : n < 1000000) {r : D} (hr : Bd 1000000 30 1 10 r) {m : Int} (hm : m ∈ [(201 : Int), 202, 300, 1000]) (k : Dk) :
    gMulB (.tup [r]) (.int (m - 1)) = some (.tup (List.replicate (m - 1).toNat r)) ∧ gAddB (.tup (List.replicate (m - 1).toNat r)) (.tup [endD n]) = some (.tup (List.replicate (m - 1).toNat r ++ [endD n])) ∧
      F__law_refused [.tup (List.replicate (m - 1).toNat r ++ [endD n]), .int (-1)] k = some (.bl true, k) := by
  simp only [List.mem_cons, List.not_mem_nil, or_false] at hm
  have h : 201 ≤ m ∧ m ≤ 1000 := by rcases hm with rfl | rfl | rfl | rfl <;> decide
  refine ⟨r_mulT1 ⟨by omega, by omega⟩, r_addT (by simp; omega), refused_ok (rep_bd (by omega) hr (fun d hd => by rw [List.mem_singleton.mp hd]; exact end_b h0 h1) (by simp)) (by decide) (refus_long (by simp; omega)) k⟩
/-- one that is no row -/
structure Odd (d : D) : Prop where
  b : Bd (10 ^ 40) 200 20 20 d
  r : isRow d = false
theorem Odd.of {d : D} (h : (lf (10 ^ 40) d && decide (bk d ≤ 200) && decide (dpt d ≤ 20) && decide (mx d ≤ 20) && !isRow d) = true) : Odd d := by
  simp only [Bool.and_eq_true, decide_eq_true_eq, Bool.not_eq_true'] at h
  exact ⟨⟨h.1.1.1.1, h.1.1.1.2, h.1.1.2, h.1.2⟩, h.2⟩
theorem Odd.not {d : D} (h : Odd d) (m : Int) : rowOf m d = false := by
  unfold rowOf; rw [h.r]; rfl
def oddsL (n : Int) : List D := [.non, .bl true, .int 7, .str "end a", .lst [endD n], .lst [.str "end", .int n], .dct [] [], .tup [], .tup [endD n], .tup [.str "end", .int n, .int 0], .tup [.str "end"], deepD 18,
  .tup [.str "go", .int (10 ^ 39)], .tup [.str "go", .int 1000000], .tup [.str "end", .str "u"]]
theorem odds_odd (h0 : 0 ≤ n) (h1 : n < 1000000) : ∀ d ∈ oddsL n, Odd d := by
  intro d hd
  unfold oddsL at hd
  have hi : ∀ {W P X : Nat}, Bd (10 ^ 40) W P X (.int n) := fun {W P X} => bd_int (Nat.le_trans (show n.natAbs ≤ 1000000 by omega) (by decide))
  have hs : Bd (10 ^ 40) 190 19 19 (.str "end") := bd_str (by decide) (by decide) (by decide)
  simp only [List.mem_cons, List.not_mem_nil, or_false] at hd
  rcases hd with rfl | rfl | rfl | rfl | rfl | rfl | rfl | rfl | rfl | rfl | rfl | rfl | rfl | rfl | rfl
  · exact .of (by decide +kernel)
  · exact .of (by decide +kernel)
  · exact .of (by decide +kernel)
  · exact .of (by decide +kernel)
  · exact ⟨(bd_oneL (end_is h0 h1 1).b).mono (by decide) (by omega) (by omega) (by omega), rfl⟩
  · exact ⟨(bd_lst (M := 10 ^ 40) (W := 190) (P := 19) (X := 19) (fun d hd => by
      simp only [List.mem_cons, List.not_mem_nil, or_false] at hd
      rcases hd with rfl | rfl
      · exact hs
      · exact hi) (by simp only [bks, bk]; decide) (by simp)).mono (by omega) (by omega) (by omega) (by omega), rfl⟩
  · exact .of (by decide +kernel)
  · exact .of (by decide +kernel)
  · exact ⟨(bd_one (end_is h0 h1 1).b).mono (by decide) (by omega) (by omega) (by omega), rfl⟩
  · refine ⟨(bd_tup (M := 10 ^ 40) (W := 190) (P := 19) (X := 19) (fun d hd => by
      simp only [List.mem_cons, List.not_mem_nil, or_false] at hd
      rcases hd with rfl | rfl | rfl
      · exact hs
      · exact hi
      · exact bd_int (Nat.zero_le _)) (by simp only [bks, bk]; decide) (by simp)).mono (by omega) (by omega) (by omega) (by omega), ?_⟩
    have e : kindsL.lookup ("end" : Str) = some [1] := by decide +kernel
    show (match kindsL.lookup ("end" : Str) with | some ks => okParts ks [.int n, .int 0] | none => false) = false
    rw [e]; rfl
  · exact .of (by decide +kernel)
  · exact .of (by decide +kernel)
  · exact .of (by decide +kernel)
  · exact .of (by decide +kernel)
  · exact .of (by decide +kernel)
end
end W03
namespace W03
open PySem PySem.Spec PyProof.Rows L2 WS W01 W02
section
variable {n : Int}
theorem rep_rows (h0 : 0 ≤ n) (h1 : n < 1000000) (j : Nat) (m : Int) : ∀ d ∈ List.replicate j (endD n), rowOf m d = true := fun d hd => by
  rw [List.eq_of_mem_replicate hd]; exact (end_is h0 h1 m).ok
/-- a wrong one behind right ones -/
theorem l2_ok (h0 : 0 ≤ n) (h1 : n < 1000000) {r x : D} (hr : RowIs 1 r) (hx : Odd x) {at_ : Int} (a0 : 0 ≤ at_) (a1 : at_ < 60) (k : Dk) :
    gMulB (.tup [endD n]) (.int at_) = some (.tup (List.replicate at_.toNat (endD n))) ∧
    gAddB (.tup (List.replicate at_.toNat (endD n))) (.tup [x]) = some (.tup (List.replicate at_.toNat (endD n) ++ [x])) ∧
    gAddB (.tup (List.replicate at_.toNat (endD n))) (.tup [x, endD n, x]) = some (.tup (List.replicate at_.toNat (endD n) ++ [x, endD n, x])) ∧
    gAddB (.tup [x]) (.tup (List.replicate at_.toNat (endD n))) = some (.tup ([x] ++ List.replicate at_.toNat (endD n))) ∧
    gAddB (.tup ([x] ++ List.replicate at_.toNat (endD n))) (.tup [r]) = some (.tup ([x] ++ List.replicate at_.toNat (endD n) ++ [r])) ∧
    F__law_refused [.tup (List.replicate at_.toNat (endD n) ++ [x]), .int at_] k = some (.bl true, k) ∧
    F__law_refused [.tup (List.replicate at_.toNat (endD n) ++ [x, endD n, x]), .int at_] k = some (.bl true, k) ∧
    F__law_refused [.tup ([x] ++ List.replicate at_.toNat (endD n) ++ [r]), .int 0] k = some (.bl true, k) := by
  have hi : (at_.toNat : Int) = at_ := Int.toNat_of_nonneg a0
  have hb := (end_is h0 h1 1).b
  refine ⟨r_mulT1 ⟨by omega, by omega⟩, r_addT (by simp; omega), r_addT (by simp; omega), r_addT (by simp; omega), r_addT (by simp; omega), ?_, ?_, ?_⟩
  · refine refused_ok (rep_bd (by omega) hb (fun d hd => by rw [List.mem_singleton.mp hd]; exact hx.b) (by simp)) (by omega) ?_ k
    have := refus_at (pre := List.replicate at_.toNat (endD n)) (post := []) (x := x) (by simp; omega) (rep_rows h0 h1 _ _) (hx.not _)
    rw [this, List.length_replicate, hi]
  · refine refused_ok (rep_bd (by omega) hb (fun d hd => by
      simp only [List.mem_cons, List.not_mem_nil, or_false] at hd
      rcases hd with rfl | rfl | rfl
      · exact hx.b
      · exact end_b h0 h1
      · exact hx.b) (by simp)) (by omega) ?_ k
    have := refus_at (pre := List.replicate at_.toNat (endD n)) (post := [endD n, x]) (x := x) (by simp; omega) (rep_rows h0 h1 _ _) (hx.not _)
    rw [this, List.length_replicate, hi]
  · have hA : AskP (.tup ([x] ++ List.replicate at_.toNat (endD n) ++ [r])) := by
      have := rep_bd (m := 0) (x := endD n) (ys := [x] ++ List.replicate at_.toNat (endD n) ++ [r]) (by omega) hb (fun d hd => by
        rcases List.mem_append.mp hd with q | q
        · rcases List.mem_append.mp q with q | q
          · rw [List.mem_singleton.mp q]; exact hx.b
          · rw [List.eq_of_mem_replicate q]; exact end_b h0 h1
        · rw [List.mem_singleton.mp q]; exact hr.b.mono (by decide) (by omega) (by omega) (by omega)) (by simp; omega)
      simpa using this
    refine refused_ok hA (by decide) ?_ k
    have := refus_at (pre := []) (post := List.replicate at_.toNat (endD n) ++ [r]) (x := x) (by simp; omega) (fun d hd => by simp at hd) (hx.not _)
    simpa using this
end
end W03
namespace W03
open PySem PySem.Spec PyProof.Rows L2 WS W01 W02
section
variable {n : Int}
abbrev goD (i : Int) : D := .tup [.str "go", .int i]
abbrev underD (m : Int) : D := .tup [.str "under", .str "t", .int 999999, .int m]
theorem look_go : kindsL.lookup ("go" : Str) = some [2] := by decide +kernel
theorem look_under : kindsL.lookup ("under" : Str) = some [1, 1, 2] := by decide +kernel
theorem go_not {m i : Int} (h : m ≤ i) : rowOf m (goD i) = false := by
  have : jmpD m (goD i) = false := by
    rw [jmpD_at look_go]
    show (!true || decide (i < m)) = false
    rw [decide_eq_false (by omega)]; rfl
  unfold rowOf; rw [this, Bool.and_false]
theorem under_not {m : Int} : rowOf m (underD m) = false := by
  have : jmpD m (underD m) = false := by
    rw [jmpD_at look_under]
    show (!true || decide (m < m)) = false
    rw [decide_eq_false (by omega)]; rfl
  unfold rowOf; rw [this, Bool.and_false]
theorem go_b (i : Int) (h : i.natAbs ≤ 1000) : Bd (10 ^ 40) 200 20 20 (goD i) :=
  bd_tup (P := 19) (fun d hd => by
    simp only [List.mem_cons, List.not_mem_nil, or_false] at hd
    rcases hd with rfl | rfl
    · exact bd_str (by decide) (by decide) (by decide)
    · exact bd_int (Nat.le_trans h (by decide))) (by simp only [bks, bk]; decide) (by simp)
theorem under_b (i : Int) (h : i.natAbs ≤ 1000) : Bd (10 ^ 40) 200 20 20 (underD i) :=
  bd_tup (P := 19) (fun d hd => by
    simp only [List.mem_cons, List.not_mem_nil, or_false] at hd
    rcases hd with rfl | rfl | rfl | rfl
    · exact bd_str (by decide) (by decide) (by decide)
    · exact bd_str (by decide) (by decide) (by decide)
    · exact bd_int (by decide)
    · exact bd_int (Nat.le_trans h (by decide))) (by simp only [bks, bk]; decide) (by simp)
theorem letD_row (m : Int) : RowIs m (.tup [.str "let", .str "a", .int 0]) := row_is (ks := [0, 1]) (by decide +kernel) (.cons (letter_part (c := 97) (by omega) (by omega) m (by omega)) (.cons (int_part (by omega) (by omega) (by omega) (by omega)) .nil)) (by decide) (by decide)
theorem freeD_row (m : Int) : RowIs m (.tup [.str "free", .int 0]) := row_is (ks := [1]) (by decide +kernel) (.cons (int_part (by omega) (by omega) (by omega) (by omega)) .nil) (by decide) (by decide)
theorem goD_end (i : Int) : endOk (goD i) = true := by
  show (decide (("go" : Str) = "end") || decide (("go" : Str) = "go")) = true; decide +kernel
/-- rows that make a program -/
theorem good_is (h0 : 0 ≤ n) (h1 : n < 1000000) {m : Nat} (m1 : 1 ≤ m) (m2 : m ≤ 200) : RowsIs m (List.replicate (m - 1) (endD n) ++ [goD ((m : Int) - 1)]) where
  n := by simp; omega
  r := fun d hd => by
    rcases List.mem_append.mp hd with q | q
    · rw [List.eq_of_mem_replicate q]; exact end_is h0 h1 _
    · rw [List.mem_singleton.mp q]; exact go_row (by omega) (by omega) (by omega)
  e := ⟨goD ((m : Int) - 1), by simp, goD_end _⟩
theorem askRows {m : Nat} {x : D} (h0 : 0 ≤ n) (h1 : n < 1000000) (m2 : m ≤ 200) (hx : Bd (10 ^ 40) 200 20 20 x) : AskP (.tup (List.replicate m (endD n) ++ [x])) :=
  rep_bd (by omega) (end_is h0 h1 1).b (fun d hd => by rw [List.mem_singleton.mp hd]; exact hx) (by simp)
theorem l1_ok (h0 : 0 ≤ n) (h1 : n < 1000000) {m : Nat} (m1 : 1 ≤ m) (m2 : m ≤ 200) {at_ : Int} (a0 : 0 ≤ at_) (a1 : at_ < m) (k : Dk) :
    ∃ good tk dr : List D,
    gMulB (.tup [endD n]) (.int ((m : Int) - 1)) = some (.tup (List.replicate (m - 1) (endD n))) ∧
    gAddB (.tup (List.replicate (m - 1) (endD n))) (.tup [goD ((m : Int) - 1)]) = some (.tup good) ∧
    F__law_made [.tup good] k = some (.tup [.str "made", .tup good], k) ∧
    gNeE (.tup [.str "made", .tup good]) (.tup [.str "made", .tup good]) = some (.bl false) ∧
    gSl (.tup good) none (some (-1)) = some (.tup (List.replicate (m - 1) (endD n))) ∧
    (∀ x : D, gAddB (.tup (List.replicate (m - 1) (endD n))) (.tup [x]) = some (.tup (List.replicate (m - 1) (endD n) ++ [x]))) ∧
    F__law_refused [.tup (List.replicate (m - 1) (endD n) ++ [goD m]), .int ((m : Int) - 1)] k = some (.bl true, k) ∧
    gSl (.tup good) none (some at_) = some (.tup tk) ∧
    gAddB (.tup tk) (.tup [underD m]) = some (.tup (tk ++ [underD m])) ∧
    gSl (.tup good) (some (at_ + 1)) none = some (.tup dr) ∧
    gAddB (.tup (tk ++ [underD m])) (.tup dr) = some (.tup (tk ++ [underD m] ++ dr)) ∧
    F__law_refused [.tup (tk ++ [underD m] ++ dr), .int at_] k = some (.bl true, k) ∧
    F__law_refused [.tup (List.replicate (m - 1) (endD n) ++ [.tup [.str "let", .str "a", .int 0]]), .int (m : Int)] k = some (.bl true, k) ∧
    F__law_refused [.tup (List.replicate (m - 1) (endD n) ++ [.tup [.str "free", .int 0]]), .int (m : Int)] k = some (.bl true, k) := by
  have hG := good_is h0 h1 m1 m2
  have e1 : ((m : Int) - 1).toNat = m - 1 := by omega
  have hL : (List.replicate (m - 1) (endD n) ++ [goD ((m : Int) - 1)]).length = m := hG.n
  refine ⟨List.replicate (m - 1) (endD n) ++ [goD ((m : Int) - 1)], (List.replicate (m - 1) (endD n) ++ [goD ((m : Int) - 1)]).take at_.toNat, (List.replicate (m - 1) (endD n) ++ [goD ((m : Int) - 1)]).drop (at_ + 1).toNat, ?_, r_addT (by simp; omega), ?_, ?_, cut_last, fun x => r_addT (by simp; omega), ?_, sl_to a0, r_addT (by simp; omega), sl_from (by omega), r_addT (by simp; omega), ?_, ?_, ?_⟩
  · rw [r_mulT1 ⟨by omega, by omega⟩, e1]
  · have := made_ok (d := .tup (List.replicate (m - 1) (endD n) ++ [goD ((m : Int) - 1)])) k (plain_lf hG.bd.l) (Nat.le_trans hG.bd.x (by omega))
    unfold dueD at this
    rw [hG.good m1 m2] at this
    exact this
  · have hs := hG.seq
    have hp := hG.bd.p
    refine neE_self ?_ ?_
    · simp only [seqy, seqys, Bool.and_true] at hs ⊢
      rw [hs]; decide
    · simp only [dpt, dpts] at hp ⊢
      omega
  · refine refused_ok (askRows h0 h1 (by omega) (go_b _ (by omega))) (by omega) ?_ k
    have := refus_at (pre := List.replicate (m - 1) (endD n)) (post := []) (x := goD m) (by simp; omega) (rep_rows h0 h1 _ _) (go_not (by simp; omega))
    rw [this, List.length_replicate]
    congr 1; omega
  · generalize hg : List.replicate (m - 1) (endD n) ++ [goD ((m : Int) - 1)] = good at *
    have hln : (good.take at_.toNat).length = at_.toNat := by rw [List.length_take]; omega
    have hld : (good.drop (at_ + 1).toNat).length = m - at_.toNat - 1 := by rw [List.length_drop]; omega
    have hlen : (good.take at_.toNat ++ underD m :: good.drop (at_ + 1).toNat).length = m := by rw [List.length_append, List.length_cons]; omega
    have hA : AskP (.tup (good.take at_.toNat ++ [underD m] ++ good.drop (at_ + 1).toNat)) := by
      have := rep_bd (m := 0) (x := endD n) (ys := good.take at_.toNat ++ [underD m] ++ good.drop (at_ + 1).toNat) (by omega) (end_is h0 h1 1).b (fun d hd => by
        rcases List.mem_append.mp hd with q | q
        · rcases List.mem_append.mp q with q | q
          · exact (hG.r d (List.mem_of_mem_take q)).b.mono (by decide) (by omega) (by omega) (by omega)
          · rw [List.mem_singleton.mp q]; exact under_b _ (by omega)
        · exact (hG.r d (List.mem_of_mem_drop q)).b.mono (by decide) (by omega) (by omega) (by omega)) (by simp only [List.length_append, List.length_singleton]; omega)
      simpa using this
    refine refused_ok hA (by omega) ?_ k
    rw [List.append_assoc, List.singleton_append]
    have := refus_at (pre := good.take at_.toNat) (post := good.drop (at_ + 1).toNat) (x := underD m) (by omega) (fun d hd => by rw [hlen]; exact (hG.r d (List.mem_of_mem_take hd)).ok) (by rw [hlen]; exact under_not)
    rw [this, hln, Int.toNat_of_nonneg a0]
  · refine refused_ok (askRows h0 h1 (by omega) ((letD_row 1).b.mono (by decide) (by omega) (by omega) (by omega))) (by omega) ?_ k
    have hlen : (List.replicate (m - 1) (endD n) ++ [D.tup [.str "let", .str "a", .int 0]]).length = m := by simp; omega
    have := refus_last (rows := List.replicate (m - 1) (endD n)) (x := .tup [.str "let", .str "a", .int 0]) (by omega) (fun d hd => by
      rcases List.mem_append.mp hd with q | q
      · exact rep_rows h0 h1 _ _ d q
      · rw [List.mem_singleton.mp q]; exact (letD_row _).ok) (by show (decide (("let" : Str) = "end") || decide (("let" : Str) = "go")) = false; decide +kernel)
    rw [this, hlen]
  · refine refused_ok (askRows h0 h1 (by omega) ((freeD_row 1).b.mono (by decide) (by omega) (by omega) (by omega))) (by omega) ?_ k
    have hlen : (List.replicate (m - 1) (endD n) ++ [D.tup [.str "free", .int 0]]).length = m := by simp; omega
    have := refus_last (rows := List.replicate (m - 1) (endD n)) (x := .tup [.str "free", .int 0]) (by omega) (fun d hd => by
      rcases List.mem_append.mp hd with q | q
      · exact rep_rows h0 h1 _ _ d q
      · rw [List.mem_singleton.mp q]; exact (freeD_row _).ok) (by show (decide (("free" : Str) = "end") || decide (("free" : Str) = "go")) = false; decide +kernel)
    rw [this, hlen]
end
end W03
namespace W03
open PySem PySem.Spec PyProof.Rows L2 WS W01 W02
/-- what stands throughout -/
def Slots (a0 : Sl) (n : Int) (r : D) (a6 : Sl) (ρ : List Sl) : Prop := ∃ b4 b5 b7 b8 b9, ρ = [a0, .val .deck, .val (endD n), .val r, b4, b5, a6, b7, b8, b9]
theorem law_true (ns : List Int) : ∃ k', F_law [.rdl (ns.map D.int)] none = some (.bl true, k') := by
  obtain ⟨k1, e1, d1⟩ := deck_ok ns
  obtain ⟨n, k2, e2, h0, h1, d2⟩ := number_ok d1 (by omega)
  obtain ⟨r, k3, e3, hr, d3⟩ := row_ok d2 (by omega) (m := 1) ⟨by omega, by omega⟩
  generalize ha0 : Sl.val (.rdl (ns.map D.int)) = a0
  obtain ⟨ρ1, l1, c4, c5, c7, c8, c9, rfl⟩ := for_all (g := gSet 4) (body := L4_law) (k := k3) (Slots a0 n r .no) [D.non, .bl true, .bl false, .int 0, .int 7, .int (-1), .int (10 ^ 39), .str "", .str "end a", .lst [], .lst [endD n], .dct [] [], .dct [.inl 0] [endD n], .tup []]
    [a0, .val .deck, .val (endD n), .val r, .no, .no, .no, .no, .no, .no] ⟨_, _, _, _, _, rfl⟩ (fun d hd ρ ⟨b4, b5, b7, b8, b9, e⟩ => by
      subst e
      have h := l4_ok h0 h1 hd k3
      exact ⟨_, _, rfl, by unfold L4_law; simp! [h]; rfl, _, _, _, _, _, rfl⟩)
  obtain ⟨ρ2, l2, p4, p5, p7, p8, p9, rfl⟩ := for_all (g := gSet 5) (body := L3_law) (k := k3) (Slots a0 n r .no) ([(201 : Int), 202, 300, 1000].map D.int)
    [a0, .val .deck, .val (endD n), .val r, c4, c5, .no, c7, c8, c9] ⟨_, _, _, _, _, rfl⟩ (fun d hd ρ ⟨b4, b5, b7, b8, b9, e⟩ => by
      subst e
      obtain ⟨m, hm, rfl⟩ := List.mem_map.mp hd
      obtain ⟨g1, g2, g3⟩ := l3_ok h0 h1 hr.b hm k3
      exact ⟨_, _, rfl, by unfold L3_law; simp! [g1, g2, g3]; rfl, _, _, _, _, _, rfl⟩)
  obtain ⟨ρ3, k4, l3, ⟨s4, s5, s7, s8, s9, rfl⟩, d4⟩ := for_dr (g := gSet 4) (body := L2_law) (Slots a0 n r (.val (.lst (oddsL n)))) 1 Odd (oddsL n)
    [a0, .val .deck, .val (endD n), .val r, p4, p5, .val (.lst (oddsL n)), p7, p8, p9] _ k3 ⟨_, _, _, _, _, rfl⟩ d3 (odds_odd h0 h1) (fun d m k ρ hd hm hk ⟨b4, b5, b7, b8, b9, e⟩ => by
      subst e
      have hln : (oddsL n).length = 15 := rfl
      rw [hln] at hm
      obtain ⟨at_, k', e4, a1, a2, dk⟩ := draw_ok hk 60 ⟨by omega, by omega⟩ (by omega)
      obtain ⟨g1, g2, g3, g4, g5, g6, g7, g8⟩ := l2_ok h0 h1 hr hd a1 a2 k'
      exact ⟨_, _, k', rfl, by unfold L2_law; simp! [e4, g1, g2, g3, g4, g5, g6, g7, g8]; rfl, ⟨_, _, _, _, _, rfl⟩, dk⟩)
  rw [show (oddsL n).length = 15 from rfl] at d4
  obtain ⟨j, k5, e5, j1, j2, d5⟩ := draw_ok d4 200 ⟨by omega, by omega⟩ (by omega)
  obtain ⟨ρ4, k6, l4, ⟨t4, t5, t7, t8, t9, rfl⟩, d6⟩ := for_dr (g := gSet 5) (body := L1_law) (Slots a0 n r (.val (.lst (oddsL n)))) 1 (fun d => ∃ m : Nat, d = .int (m : Int) ∧ 1 ≤ m ∧ m ≤ 200) [.int 1, .int 2, .int (1 + j), .int 199, .int 200]
    [a0, .val .deck, .val (endD n), .val r, s4, s5, .val (.lst (oddsL n)), s7, s8, s9] _ k5 ⟨_, _, _, _, _, rfl⟩ d5 (fun d hd => by
      simp only [List.mem_cons, List.not_mem_nil, or_false] at hd
      rcases hd with rfl | rfl | rfl | rfl | rfl
      · exact ⟨1, rfl, by omega, by omega⟩
      · exact ⟨2, rfl, by omega, by omega⟩
      · exact ⟨(1 + j).toNat, by rw [Int.toNat_of_nonneg (by omega)], by omega, by omega⟩
      · exact ⟨199, rfl, by omega, by omega⟩
      · exact ⟨200, rfl, by omega, by omega⟩) (fun d mm k ρ ⟨m, hd, m1, m2⟩ hm hk ⟨b4, b5, b7, b8, b9, e⟩ => by
      subst e hd
      simp only [List.length_cons, List.length_nil] at hm
      obtain ⟨at_, k', e4, a1, a2, dk⟩ := draw_ok hk (m : Int) ⟨by omega, by omega⟩ (by omega)
      obtain ⟨good, tk, dr, g1, g2, g3, g4, g5, g6, g7, g8, g9, g10, g11, g12, g13, g14⟩ := l1_ok h0 h1 m1 m2 a1 a2 k'
      exact ⟨_, _, k', rfl, by unfold L1_law; simp! [e4, g1, g2, g3, g4, g5, g6, g7, g8, g9, g10, g11, g12, g13, g14]; rfl, ⟨_, _, _, _, _, rfl⟩, dk⟩)
  refine ⟨k6, ?_⟩
  have hpow : gPow (.int 10) (.int 39) = some (.int (10 ^ 39)) := r_pow (i := 10) (n := 39) ⟨by omega, by omega⟩
  have hdp := deep_ok k3
  have g5 : ∀ a b : List D, a.length + b.length ≤ 10000000 → gAddB (.lst a) (.lst b) = some (.lst (a ++ b)) := fun a b => r_addL
  have g6 : ∀ a b : List D, a.length + b.length ≤ 10000000 → gAddB (.tup a) (.tup b) = some (.tup (a ++ b)) := fun a b => r_addT
  unfold oddsL at l3 l4
  unfold F_law body_law
  rw [← ha0] at *
  simp only [List.map_cons, List.map_nil] at l2
  simp! [e1, e2, e3, hpow, pow6, l1, l2, g5, g6, hdp, List.cons_append, List.nil_append, List.take_succ_cons, List.take_zero, small_line, small_lineE, l3, e5, l4]
end W03
open PySem PySem.W PyProof.Rows
namespace W03
open PySem PySem.Spec PyProof.Rows L2 WS
theorem fx_mk {P : Program} {w : World} {K : PySem.W.Frag} {mg : Str → Option Value} {h : Heap} (KX : K.In h) (G : h.Ns mainGlobals mg)
  (f_is_whole : Df K mg "is_whole" (topS 17))
  (f_is_number : Df K mg "is_number" (topS 18))
  (f_is_register : Df K mg "is_register" (topS 19))
  (f_is_part : Df K mg "is_part" (topS 20))
  (f_is_row : Df K mg "is_row" (topS 21))
  (f_jump_of : Df K mg "jump_of" (topS 22))
  (f_is_row_of : Df K mg "is_row_of" (topS 23))
  (f_ends_well : Df K mg "ends_well" (topS 24))
  (f__law_deck : Df K mg "_law_deck" (topS 27))
  (f__law_draw : Df K mg "_law_draw" (topS 28))
  (f__law_kinds : Df K mg "_law_kinds" (topS 30))
  (f__law_number : Df K mg "_law_number" (topS 31))
  (f__law_part : Df K mg "_law_part" (topS 32))
  (f__law_row : Df K mg "_law_row" (topS 33))
  (f__law_classes : Df K mg "_law_classes" (topS 36))
  (f__law_made : Df K mg "_law_made" (topS 37))
  (f__law_refused : Df K mg "_law_refused" (topS 38))
  (f__law_deep : Df K mg "_law_deep" (topS 39))
  (f_law : Df K mg "law" (topS 40))
  (g_TOP : Gk K mg "TOP" W01.g_TOP)
  (g_REGISTERS : Gk K mg "REGISTERS" W01.g_REGISTERS)
  (g_GIVEN : Gk K mg "GIVEN" W01.g_GIVEN)
  (g_REGISTER : Gk K mg "REGISTER" W01.g_REGISTER)
  (t_PARTS : Gt K w mg "PARTS" W01.t_PARTS)
  (g_JUMP : Gk K mg "JUMP" W02.g_JUMP)
  (g_LAST : Gk K mg "LAST" W02.g_LAST)
  (g_MOST_ROWS : Gk K mg "MOST_ROWS" W02.g_MOST_ROWS)
  (kc : KCs K ["Program", "WeaveError", "NoProgram", "NoText", "NoGear", "NoPlan", "NoRow", "TooMany"])
  (l_rows : FTab K "rows" ["Program"])
  (l_row : FTab K "row" ["NoProgram", "NoText"])
  (q_IndexError : ClQ0 K mg "IndexError" (some "IndexError") W02.q_IndexError)
  (q_ValueError : ClQ0 K mg "ValueError" (some "ValueError") W02.q_ValueError)
  (q_WeaveError : ClQ0 K mg "WeaveError" none W02.q_WeaveError)
  (q_TooMany : ClQ0 K mg "TooMany" none W02.q_TooMany)
  (q_NoRow : ClQ0 K mg "NoRow" none W02.q_NoRow)
  (q_NoPlan : ClQ0 K mg "NoPlan" none W02.q_NoPlan)
  (q_NoGear : ClQ0 K mg "NoGear" none W02.q_NoGear)
  (q_NoText : ClQ0 K mg "NoText" none W02.q_NoText)
  (q_NoProgram : ClQ0 K mg "NoProgram" none W02.q_NoProgram)
  (y_NoProgram : ClY K mg "NoProgram" W02.y_NoProgram)
  (i_Program : DfI K mg "Program" "Program.__init__" (memOf (topS 25) 0) W02.fs_Program)
  (e_NoProgram : ExC0 K mg "NoProgram" "NoProgram.__init__" "row" (memOf (topS 3) 0))
  (w_WeaveError : WeB K mg "WeaveError")
  (b_all : mg "all" = none)
  (b_bool : mg "bool" = none)
  (b_enumerate : mg "enumerate" = none)
  (b_int : mg "int" = none)
  (b_isinstance : mg "isinstance" = none)
  (b_len : mg "len" = none)
  (b_list : mg "list" = none)
  (b_range : mg "range" = none)
  (b_repr : mg "repr" = none)
  (b_sorted : mg "sorted" = none)
  (b_str : mg "str" = none)
  (b_sum : mg "sum" = none)
  (b_tuple : mg "tuple" = none)
  (b_zip : mg "zip" = none) : Fx P w K mg := { f_is_whole := f_is_whole, f_is_number := f_is_number, f_is_register := f_is_register, f_is_part := f_is_part, f_is_row := f_is_row, f_jump_of := f_jump_of, f_is_row_of := f_is_row_of, f_ends_well := f_ends_well, f__law_deck := f__law_deck, f__law_draw := f__law_draw, f__law_kinds := f__law_kinds, f__law_number := f__law_number, f__law_part := f__law_part, f__law_row := f__law_row, f__law_classes := f__law_classes, f__law_made := f__law_made, f__law_refused := f__law_refused, f__law_deep := f__law_deep, f_law := f_law, g_TOP := g_TOP, g_REGISTERS := g_REGISTERS, g_GIVEN := g_GIVEN, g_REGISTER := g_REGISTER, t_PARTS := t_PARTS, g_JUMP := g_JUMP, g_LAST := g_LAST, g_MOST_ROWS := g_MOST_ROWS, kc := kc, l_rows := l_rows, l_row := l_row, q_IndexError := q_IndexError, q_ValueError := q_ValueError, q_WeaveError := q_WeaveError, q_TooMany := q_TooMany, q_NoRow := q_NoRow, q_NoPlan := q_NoPlan, q_NoGear := q_NoGear, q_NoText := q_NoText, q_NoProgram := q_NoProgram, y_NoProgram := y_NoProgram, i_Program := i_Program, e_NoProgram := e_NoProgram, w_WeaveError := w_WeaveError, b_all := b_all, b_bool := b_bool, b_enumerate := b_enumerate, b_int := b_int, b_isinstance := b_isinstance, b_len := b_len, b_list := b_list, b_range := b_range, b_repr := b_repr, b_sorted := b_sorted, b_str := b_str, b_sum := b_sum, b_tuple := b_tuple, b_zip := b_zip }
theorem top_of {P : Program} {w : World} {K : PySem.W.Frag} {mg : Str → Option Value} {fa : Addr} (C : Fx P w K mg) (hm : mg "law" = some (.ref fa)) :
    ∃ fd : FuncData, (∀ (s : Shared) (u : Value), BindsTo s fd ⟨[u], []⟩ [("_law_script", u)]) ∧ ∀ base : Heap, K.In base → base.Ns mainGlobals mg → FnG P w K mg base CX0 10 fa fd ["_law_script"] (spS K 1 F_law) := by
  obtain ⟨f, fd, Fu, m⟩ := C.f_law
  rw [hm] at m
  cases m
  exact ⟨fd, fun s u => WS.fun_bind Fu (fun _ _ _ _ _ _ _ => rfl) s u, fun base _ _ => at_law C Fu⟩
end W03
set_option maxHeartbeats 0 in
theorem PySem.Challenge.cw_weavesafe_k03_rows_that_are_no_program_holds : PySem.Challenge.rw_weavesafe_k03_rows_that_are_no_program.Holds := by
  w_on; o_law; k_head; (case hw => w_witness2)
  k_fill
  refine WS.walkGK (l := PySem.Challenge.rw_weavesafe_k03_rows_that_are_no_program) (n := 63) (k := 10) (x := "_law_script") (CX := L2.CX0) (sp := fun K => WS.spS K 1 W03.F_law) rfl (by decide) rfl ⟨rfl, by decide, by decide⟩ (fun w h Y => PySem.W.kIn_of Y) ?F (fun K H a ns h1 h2 h3 => WS.sp_true (fun ns hl => W03.law_true ns) K H a ns h1 h2 h3) (fun _ _ _ _ h => h)
  case F =>
    intro w mg fa h KX G hmg
    refine' W03.top_of (P := PySem.Challenge.pw_weavesafe_k03_rows_that_are_no_program) (w := w) (W03.fx_mk (w := w) KX G ?f_is_whole ?f_is_number ?f_is_register ?f_is_part ?f_is_row ?f_jump_of ?f_is_row_of ?f_ends_well ?f__law_deck ?f__law_draw ?f__law_kinds ?f__law_number ?f__law_part ?f__law_row ?f__law_classes ?f__law_made ?f__law_refused ?f__law_deep ?f_law ?g_TOP ?g_REGISTERS ?g_GIVEN ?g_REGISTER ?t_PARTS ?g_JUMP ?g_LAST ?g_MOST_ROWS ?kc ?l_rows ?l_row ?q_IndexError ?q_ValueError ?q_WeaveError ?q_TooMany ?q_NoRow ?q_NoPlan ?q_NoGear ?q_NoText ?q_NoProgram ?y_NoProgram ?i_Program ?e_NoProgram ?w_WeaveError ?b_all ?b_bool ?b_enumerate ?b_int ?b_isinstance ?b_len ?b_list ?b_range ?b_repr ?b_sorted ?b_str ?b_sum ?b_tuple ?b_zip) hmg
    case f_is_whole =>
      refine' WS.df_mk KX G ?q1 ?q2 ?q3 ?q4
      (case q1 => k_is)
      (case q2 => k_is)
      (case q3 => k_is)
      (case q4 => k_is)
    case f_is_number =>
      refine' WS.df_mk KX G ?q5 ?q6 ?q7 ?q8
      (case q5 => k_is)
      (case q6 => k_is)
      (case q7 => k_is)
      (case q8 => k_is)
    case f_is_register =>
      refine' WS.df_mk KX G ?q9 ?q10 ?q11 ?q12
      (case q9 => k_is)
      (case q10 => k_is)
      (case q11 => k_is)
      (case q12 => k_is)
    case f_is_part =>
      refine' WS.df_mk KX G ?q13 ?q14 ?q15 ?q16
      (case q13 => k_is)
      (case q14 => k_is)
      (case q15 => k_is)
      (case q16 => k_is)
    case f_is_row =>
      refine' WS.df_mk KX G ?q17 ?q18 ?q19 ?q20
      (case q17 => k_is)
      (case q18 => k_is)
      (case q19 => k_is)
      (case q20 => k_is)
    case f_jump_of =>
      refine' WS.df_mk KX G ?q21 ?q22 ?q23 ?q24
      (case q21 => k_is)
      (case q22 => k_is)
      (case q23 => k_is)
      (case q24 => k_is)
    case f_is_row_of =>
      refine' WS.df_mk KX G ?q25 ?q26 ?q27 ?q28
      (case q25 => k_is)
      (case q26 => k_is)
      (case q27 => k_is)
      (case q28 => k_is)
    case f_ends_well =>
      refine' WS.df_mk KX G ?q29 ?q30 ?q31 ?q32
      (case q29 => k_is)
      (case q30 => k_is)
      (case q31 => k_is)
      (case q32 => k_is)
    case f__law_deck =>
      refine' WS.df_mk KX G ?q33 ?q34 ?q35 ?q36
      (case q33 => k_is)
      (case q34 => k_is)
      (case q35 => k_is)
      (case q36 => k_is)
    case f__law_draw =>
      refine' WS.df_mk KX G ?q37 ?q38 ?q39 ?q40
      (case q37 => k_is)
      (case q38 => k_is)
      (case q39 => k_is)
      (case q40 => k_is)
    case f__law_kinds =>
      refine' WS.df_mk KX G ?q41 ?q42 ?q43 ?q44
      (case q41 => k_is)
      (case q42 => k_is)
      (case q43 => k_is)
      (case q44 => k_is)
    case f__law_number =>
      refine' WS.df_mk KX G ?q45 ?q46 ?q47 ?q48
      (case q45 => k_is)
      (case q46 => k_is)
      (case q47 => k_is)
      (case q48 => k_is)
    case f__law_part =>
      refine' WS.df_mk KX G ?q49 ?q50 ?q51 ?q52
      (case q49 => k_is)
      (case q50 => k_is)
      (case q51 => k_is)
      (case q52 => k_is)
    case f__law_row =>
      refine' WS.df_mk KX G ?q53 ?q54 ?q55 ?q56
      (case q53 => k_is)
      (case q54 => k_is)
      (case q55 => k_is)
      (case q56 => k_is)
    case f__law_classes =>
      refine' WS.df_mk KX G ?q57 ?q58 ?q59 ?q60
      (case q57 => k_is)
      (case q58 => k_is)
      (case q59 => k_is)
      (case q60 => k_is)
    case f__law_made =>
      refine' WS.df_mk KX G ?q61 ?q62 ?q63 ?q64
      (case q61 => k_is)
      (case q62 => k_is)
      (case q63 => k_is)
      (case q64 => k_is)
    case f__law_refused =>
      refine' WS.df_mk KX G ?q65 ?q66 ?q67 ?q68
      (case q65 => k_is)
      (case q66 => k_is)
      (case q67 => k_is)
      (case q68 => k_is)
    case f__law_deep =>
      refine' WS.df_mk KX G ?q69 ?q70 ?q71 ?q72
      (case q69 => k_is)
      (case q70 => k_is)
      (case q71 => k_is)
      (case q72 => k_is)
    case f_law =>
      refine' WS.df_mk KX G ?q73 ?q74 ?q75 ?q76
      (case q73 => k_is)
      (case q74 => k_is)
      (case q75 => k_is)
      (case q76 => k_is)
    case g_TOP =>
      refine' WS.gk_mk KX G ?q77 ?q78
      (case q77 => k_is)
      (case q78 => (repeat' (first | k_is | exact WS.rk_str | exact WS.rk_int | exact WS.rk_bl | exact WS.rk_non | apply WS.TabEs.cons | exact WS.TabEs.nil | apply WS.RpKs.cons | exact WS.RpKs.nil | apply WS.rk_tup | decide)))
    case g_REGISTERS =>
      refine' WS.gk_mk KX G ?q79 ?q80
      (case q79 => k_is)
      (case q80 => (repeat' (first | k_is | exact WS.rk_str | exact WS.rk_int | exact WS.rk_bl | exact WS.rk_non | apply WS.TabEs.cons | exact WS.TabEs.nil | apply WS.RpKs.cons | exact WS.RpKs.nil | apply WS.rk_tup | decide)))
    case g_GIVEN =>
      refine' WS.gk_mk KX G ?q81 ?q82
      (case q81 => k_is)
      (case q82 => (repeat' (first | k_is | exact WS.rk_str | exact WS.rk_int | exact WS.rk_bl | exact WS.rk_non | apply WS.TabEs.cons | exact WS.TabEs.nil | apply WS.RpKs.cons | exact WS.RpKs.nil | apply WS.rk_tup | decide)))
    case g_REGISTER =>
      refine' WS.gk_mk KX G ?q83 ?q84
      (case q83 => k_is)
      (case q84 => (repeat' (first | k_is | exact WS.rk_str | exact WS.rk_int | exact WS.rk_bl | exact WS.rk_non | apply WS.TabEs.cons | exact WS.TabEs.nil | apply WS.RpKs.cons | exact WS.RpKs.nil | apply WS.rk_tup | decide)))
    case t_PARTS =>
      refine' WS.gt_mk KX G ?q85 (WS.KTab.mk ?q86 ?q87 ?q88 ?q89)
      (case q85 => k_is)
      (case q86 => k_is)
      (case q89 => first | rfl | decide)
      (case q87 => repeat' (first | exact ⟨_, _, rfl, rfl⟩ | trivial | constructor))
      (case q88 => (repeat' (first | k_is | exact WS.rk_str | exact WS.rk_int | exact WS.rk_bl | exact WS.rk_non | apply WS.TabEs.cons | exact WS.TabEs.nil | apply WS.RpKs.cons | exact WS.RpKs.nil | apply WS.rk_tup | decide)))
    case g_JUMP =>
      refine' WS.gk_mk KX G ?q90 ?q91
      (case q90 => k_is)
      (case q91 => (repeat' (first | k_is | exact WS.rk_str | exact WS.rk_int | exact WS.rk_bl | exact WS.rk_non | apply WS.TabEs.cons | exact WS.TabEs.nil | apply WS.RpKs.cons | exact WS.RpKs.nil | apply WS.rk_tup | decide)))
    case g_LAST =>
      refine' WS.gk_mk KX G ?q92 ?q93
      (case q92 => k_is)
      (case q93 => (repeat' (first | k_is | exact WS.rk_str | exact WS.rk_int | exact WS.rk_bl | exact WS.rk_non | apply WS.TabEs.cons | exact WS.TabEs.nil | apply WS.RpKs.cons | exact WS.RpKs.nil | apply WS.rk_tup | decide)))
    case g_MOST_ROWS =>
      refine' WS.gk_mk KX G ?q94 ?q95
      (case q94 => k_is)
      (case q95 => (repeat' (first | k_is | exact WS.rk_str | exact WS.rk_int | exact WS.rk_bl | exact WS.rk_non | apply WS.TabEs.cons | exact WS.TabEs.nil | apply WS.RpKs.cons | exact WS.RpKs.nil | apply WS.rk_tup | decide)))
    case kc =>
      refine' ⟨⟨_, WS.nsC ?q117, ?q118⟩, ?q119⟩
      (case q117 => k_is)
      (case q118 => (first | exact WS.clk_exc (by (first | k_is | k_exc | kernel_rfl!)) (by k_is) (by k_is) (by k_is) (by k_is) (by k_is) (by k_is) (by k_is) (by k_is) | exact WS.clk_ins (by (first | k_is | k_exc | kernel_rfl!)) (by k_is) (by k_is) (by k_is) (by k_is) (by k_is) (by k_is) (by k_is) (by k_is)))
      (case q119 =>
      refine' ⟨⟨_, WS.nsC ?q114, ?q115⟩, ?q116⟩
      (case q114 => k_is)
      (case q115 => (first | exact WS.clk_exc (by (first | k_is | k_exc | kernel_rfl!)) (by k_is) (by k_is) (by k_is) (by k_is) (by k_is) (by k_is) (by k_is) (by k_is) | exact WS.clk_ins (by (first | k_is | k_exc | kernel_rfl!)) (by k_is) (by k_is) (by k_is) (by k_is) (by k_is) (by k_is) (by k_is) (by k_is)))
      (case q116 =>
      refine' ⟨⟨_, WS.nsC ?q111, ?q112⟩, ?q113⟩
      (case q111 => k_is)
      (case q112 => (first | exact WS.clk_exc (by (first | k_is | k_exc | kernel_rfl!)) (by k_is) (by k_is) (by k_is) (by k_is) (by k_is) (by k_is) (by k_is) (by k_is) | exact WS.clk_ins (by (first | k_is | k_exc | kernel_rfl!)) (by k_is) (by k_is) (by k_is) (by k_is) (by k_is) (by k_is) (by k_is) (by k_is)))
      (case q113 =>
      refine' ⟨⟨_, WS.nsC ?q108, ?q109⟩, ?q110⟩
      (case q108 => k_is)
      (case q109 => (first | exact WS.clk_exc (by (first | k_is | k_exc | kernel_rfl!)) (by k_is) (by k_is) (by k_is) (by k_is) (by k_is) (by k_is) (by k_is) (by k_is) | exact WS.clk_ins (by (first | k_is | k_exc | kernel_rfl!)) (by k_is) (by k_is) (by k_is) (by k_is) (by k_is) (by k_is) (by k_is) (by k_is)))
      (case q110 =>
      refine' ⟨⟨_, WS.nsC ?q105, ?q106⟩, ?q107⟩
      (case q105 => k_is)
      (case q106 => (first | exact WS.clk_exc (by (first | k_is | k_exc | kernel_rfl!)) (by k_is) (by k_is) (by k_is) (by k_is) (by k_is) (by k_is) (by k_is) (by k_is) | exact WS.clk_ins (by (first | k_is | k_exc | kernel_rfl!)) (by k_is) (by k_is) (by k_is) (by k_is) (by k_is) (by k_is) (by k_is) (by k_is)))
      (case q107 =>
      refine' ⟨⟨_, WS.nsC ?q102, ?q103⟩, ?q104⟩
      (case q102 => k_is)
      (case q103 => (first | exact WS.clk_exc (by (first | k_is | k_exc | kernel_rfl!)) (by k_is) (by k_is) (by k_is) (by k_is) (by k_is) (by k_is) (by k_is) (by k_is) | exact WS.clk_ins (by (first | k_is | k_exc | kernel_rfl!)) (by k_is) (by k_is) (by k_is) (by k_is) (by k_is) (by k_is) (by k_is) (by k_is)))
      (case q104 =>
      refine' ⟨⟨_, WS.nsC ?q99, ?q100⟩, ?q101⟩
      (case q99 => k_is)
      (case q100 => (first | exact WS.clk_exc (by (first | k_is | k_exc | kernel_rfl!)) (by k_is) (by k_is) (by k_is) (by k_is) (by k_is) (by k_is) (by k_is) (by k_is) | exact WS.clk_ins (by (first | k_is | k_exc | kernel_rfl!)) (by k_is) (by k_is) (by k_is) (by k_is) (by k_is) (by k_is) (by k_is) (by k_is)))
      (case q101 =>
      refine' ⟨⟨_, WS.nsC ?q96, ?q97⟩, ?q98⟩
      (case q96 => k_is)
      (case q97 => (first | exact WS.clk_exc (by (first | k_is | k_exc | kernel_rfl!)) (by k_is) (by k_is) (by k_is) (by k_is) (by k_is) (by k_is) (by k_is) (by k_is) | exact WS.clk_ins (by (first | k_is | k_exc | kernel_rfl!)) (by k_is) (by k_is) (by k_is) (by k_is) (by k_is) (by k_is) (by k_is) (by k_is)))
      (case q98 =>
      exact trivial))))))))
    case l_rows =>
      refine' ⟨⟨_, WS.nsC ?q120, ?q121⟩, ?q122⟩
      (case q120 => k_is)
      (case q121 => (first | exact WS.fld_exc (by (first | k_is | k_exc | kernel_rfl!)) (by (first | k_is | k_exc | kernel_rfl!)) (by k_is) | exact WS.fld_ins (by (first | k_is | k_exc | kernel_rfl!)) (by k_is) (by k_is) (by k_is) (by k_is) (by k_is)))
      (case q122 =>
      exact trivial)
    case l_row =>
      refine' ⟨⟨_, WS.nsC ?q126, ?q127⟩, ?q128⟩
      (case q126 => k_is)
      (case q127 => (first | exact WS.fld_exc (by (first | k_is | k_exc | kernel_rfl!)) (by (first | k_is | k_exc | kernel_rfl!)) (by k_is) | exact WS.fld_ins (by (first | k_is | k_exc | kernel_rfl!)) (by k_is) (by k_is) (by k_is) (by k_is) (by k_is)))
      (case q128 =>
      refine' ⟨⟨_, WS.nsC ?q123, ?q124⟩, ?q125⟩
      (case q123 => k_is)
      (case q124 => (first | exact WS.fld_exc (by (first | k_is | k_exc | kernel_rfl!)) (by (first | k_is | k_exc | kernel_rfl!)) (by k_is) | exact WS.fld_ins (by (first | k_is | k_exc | kernel_rfl!)) (by k_is) (by k_is) (by k_is) (by k_is) (by k_is)))
      (case q125 =>
      exact trivial))
    case q_IndexError =>
      refine' WS.clq_blt KX G ?q153 ?q154 ?q155 ?q156
      (case q153 => k_is)
      (case q154 => decide +kernel)
      (case q155 => decide)
      (case q156 => 
      refine' ⟨⟨_, WS.nsC ?q150, ?q151⟩, ?q152⟩
      (case q150 => k_is)
      (case q151 => (first | k_is | k_exc | kernel_rfl!))
      (case q152 =>
      refine' ⟨⟨_, WS.nsC ?q147, ?q148⟩, ?q149⟩
      (case q147 => k_is)
      (case q148 => (first | k_is | k_exc | kernel_rfl!))
      (case q149 =>
      refine' ⟨⟨_, WS.nsC ?q144, ?q145⟩, ?q146⟩
      (case q144 => k_is)
      (case q145 => (first | k_is | k_exc | kernel_rfl!))
      (case q146 =>
      refine' ⟨⟨_, WS.nsC ?q141, ?q142⟩, ?q143⟩
      (case q141 => k_is)
      (case q142 => (first | k_is | k_exc | kernel_rfl!))
      (case q143 =>
      refine' ⟨⟨_, WS.nsC ?q138, ?q139⟩, ?q140⟩
      (case q138 => k_is)
      (case q139 => (first | k_is | k_exc | kernel_rfl!))
      (case q140 =>
      refine' ⟨⟨_, WS.nsC ?q135, ?q136⟩, ?q137⟩
      (case q135 => k_is)
      (case q136 => (first | k_is | k_exc | kernel_rfl!))
      (case q137 =>
      refine' ⟨⟨_, WS.nsC ?q132, ?q133⟩, ?q134⟩
      (case q132 => k_is)
      (case q133 => (first | k_is | k_exc | kernel_rfl!))
      (case q134 =>
      refine' ⟨⟨_, WS.nsC ?q129, ?q130⟩, ?q131⟩
      (case q129 => k_is)
      (case q130 => (first | k_is | k_exc | kernel_rfl!))
      (case q131 =>
      exact trivial)))))))))
    case q_ValueError =>
      refine' WS.clq_blt KX G ?q181 ?q182 ?q183 ?q184
      (case q181 => k_is)
      (case q182 => decide +kernel)
      (case q183 => decide)
      (case q184 => 
      refine' ⟨⟨_, WS.nsC ?q178, ?q179⟩, ?q180⟩
      (case q178 => k_is)
      (case q179 => (first | k_is | k_exc | kernel_rfl!))
      (case q180 =>
      refine' ⟨⟨_, WS.nsC ?q175, ?q176⟩, ?q177⟩
      (case q175 => k_is)
      (case q176 => (first | k_is | k_exc | kernel_rfl!))
      (case q177 =>
      refine' ⟨⟨_, WS.nsC ?q172, ?q173⟩, ?q174⟩
      (case q172 => k_is)
      (case q173 => (first | k_is | k_exc | kernel_rfl!))
      (case q174 =>
      refine' ⟨⟨_, WS.nsC ?q169, ?q170⟩, ?q171⟩
      (case q169 => k_is)
      (case q170 => (first | k_is | k_exc | kernel_rfl!))
      (case q171 =>
      refine' ⟨⟨_, WS.nsC ?q166, ?q167⟩, ?q168⟩
      (case q166 => k_is)
      (case q167 => (first | k_is | k_exc | kernel_rfl!))
      (case q168 =>
      refine' ⟨⟨_, WS.nsC ?q163, ?q164⟩, ?q165⟩
      (case q163 => k_is)
      (case q164 => (first | k_is | k_exc | kernel_rfl!))
      (case q165 =>
      refine' ⟨⟨_, WS.nsC ?q160, ?q161⟩, ?q162⟩
      (case q160 => k_is)
      (case q161 => (first | k_is | k_exc | kernel_rfl!))
      (case q162 =>
      refine' ⟨⟨_, WS.nsC ?q157, ?q158⟩, ?q159⟩
      (case q157 => k_is)
      (case q158 => (first | k_is | k_exc | kernel_rfl!))
      (case q159 =>
      exact trivial)))))))))
    case q_WeaveError =>
      refine' WS.clq_own KX G ?q209 ?q210 ?q211
      (case q209 => k_is)
      (case q210 => exact ⟨by (first | k_is | k_exc | kernel_rfl!), by (first | k_is | k_exc | kernel_rfl!), by (first | k_is | k_exc | kernel_rfl!), by (first | k_is | k_exc | kernel_rfl!), by (first | k_is | k_exc | kernel_rfl!), by (first | k_is | k_exc | kernel_rfl!), by (first | k_is | k_exc | kernel_rfl!)⟩)
      (case q211 => 
      refine' ⟨⟨_, WS.nsC ?q206, ?q207⟩, ?q208⟩
      (case q206 => k_is)
      (case q207 => (first | k_is | k_exc | kernel_rfl!))
      (case q208 =>
      refine' ⟨⟨_, WS.nsC ?q203, ?q204⟩, ?q205⟩
      (case q203 => k_is)
      (case q204 => (first | k_is | k_exc | kernel_rfl!))
      (case q205 =>
      refine' ⟨⟨_, WS.nsC ?q200, ?q201⟩, ?q202⟩
      (case q200 => k_is)
      (case q201 => (first | k_is | k_exc | kernel_rfl!))
      (case q202 =>
      refine' ⟨⟨_, WS.nsC ?q197, ?q198⟩, ?q199⟩
      (case q197 => k_is)
      (case q198 => (first | k_is | k_exc | kernel_rfl!))
      (case q199 =>
      refine' ⟨⟨_, WS.nsC ?q194, ?q195⟩, ?q196⟩
      (case q194 => k_is)
      (case q195 => (first | k_is | k_exc | kernel_rfl!))
      (case q196 =>
      refine' ⟨⟨_, WS.nsC ?q191, ?q192⟩, ?q193⟩
      (case q191 => k_is)
      (case q192 => (first | k_is | k_exc | kernel_rfl!))
      (case q193 =>
      refine' ⟨⟨_, WS.nsC ?q188, ?q189⟩, ?q190⟩
      (case q188 => k_is)
      (case q189 => (first | k_is | k_exc | kernel_rfl!))
      (case q190 =>
      refine' ⟨⟨_, WS.nsC ?q185, ?q186⟩, ?q187⟩
      (case q185 => k_is)
      (case q186 => (first | k_is | k_exc | kernel_rfl!))
      (case q187 =>
      exact trivial)))))))))
    case q_TooMany =>
      refine' WS.clq_own KX G ?q236 ?q237 ?q238
      (case q236 => k_is)
      (case q237 => exact ⟨by (first | k_is | k_exc | kernel_rfl!), by (first | k_is | k_exc | kernel_rfl!), by (first | k_is | k_exc | kernel_rfl!), by (first | k_is | k_exc | kernel_rfl!), by (first | k_is | k_exc | kernel_rfl!), by (first | k_is | k_exc | kernel_rfl!), by (first | k_is | k_exc | kernel_rfl!)⟩)
      (case q238 => 
      refine' ⟨⟨_, WS.nsC ?q233, ?q234⟩, ?q235⟩
      (case q233 => k_is)
      (case q234 => (first | k_is | k_exc | kernel_rfl!))
      (case q235 =>
      refine' ⟨⟨_, WS.nsC ?q230, ?q231⟩, ?q232⟩
      (case q230 => k_is)
      (case q231 => (first | k_is | k_exc | kernel_rfl!))
      (case q232 =>
      refine' ⟨⟨_, WS.nsC ?q227, ?q228⟩, ?q229⟩
      (case q227 => k_is)
      (case q228 => (first | k_is | k_exc | kernel_rfl!))
      (case q229 =>
      refine' ⟨⟨_, WS.nsC ?q224, ?q225⟩, ?q226⟩
      (case q224 => k_is)
      (case q225 => (first | k_is | k_exc | kernel_rfl!))
      (case q226 =>
      refine' ⟨⟨_, WS.nsC ?q221, ?q222⟩, ?q223⟩
      (case q221 => k_is)
      (case q222 => (first | k_is | k_exc | kernel_rfl!))
      (case q223 =>
      refine' ⟨⟨_, WS.nsC ?q218, ?q219⟩, ?q220⟩
      (case q218 => k_is)
      (case q219 => (first | k_is | k_exc | kernel_rfl!))
      (case q220 =>
      refine' ⟨⟨_, WS.nsC ?q215, ?q216⟩, ?q217⟩
      (case q215 => k_is)
      (case q216 => (first | k_is | k_exc | kernel_rfl!))
      (case q217 =>
      refine' ⟨⟨_, WS.nsC ?q212, ?q213⟩, ?q214⟩
      (case q212 => k_is)
      (case q213 => (first | k_is | k_exc | kernel_rfl!))
      (case q214 =>
      exact trivial)))))))))
    case q_NoRow =>
      refine' WS.clq_own KX G ?q263 ?q264 ?q265
      (case q263 => k_is)
      (case q264 => exact ⟨by (first | k_is | k_exc | kernel_rfl!), by (first | k_is | k_exc | kernel_rfl!), by (first | k_is | k_exc | kernel_rfl!), by (first | k_is | k_exc | kernel_rfl!), by (first | k_is | k_exc | kernel_rfl!), by (first | k_is | k_exc | kernel_rfl!), by (first | k_is | k_exc | kernel_rfl!)⟩)
      (case q265 => 
      refine' ⟨⟨_, WS.nsC ?q260, ?q261⟩, ?q262⟩
      (case q260 => k_is)
      (case q261 => (first | k_is | k_exc | kernel_rfl!))
      (case q262 =>
      refine' ⟨⟨_, WS.nsC ?q257, ?q258⟩, ?q259⟩
      (case q257 => k_is)
      (case q258 => (first | k_is | k_exc | kernel_rfl!))
      (case q259 =>
      refine' ⟨⟨_, WS.nsC ?q254, ?q255⟩, ?q256⟩
      (case q254 => k_is)
      (case q255 => (first | k_is | k_exc | kernel_rfl!))
      (case q256 =>
      refine' ⟨⟨_, WS.nsC ?q251, ?q252⟩, ?q253⟩
      (case q251 => k_is)
      (case q252 => (first | k_is | k_exc | kernel_rfl!))
      (case q253 =>
      refine' ⟨⟨_, WS.nsC ?q248, ?q249⟩, ?q250⟩
      (case q248 => k_is)
      (case q249 => (first | k_is | k_exc | kernel_rfl!))
      (case q250 =>
      refine' ⟨⟨_, WS.nsC ?q245, ?q246⟩, ?q247⟩
      (case q245 => k_is)
      (case q246 => (first | k_is | k_exc | kernel_rfl!))
      (case q247 =>
      refine' ⟨⟨_, WS.nsC ?q242, ?q243⟩, ?q244⟩
      (case q242 => k_is)
      (case q243 => (first | k_is | k_exc | kernel_rfl!))
      (case q244 =>
      refine' ⟨⟨_, WS.nsC ?q239, ?q240⟩, ?q241⟩
      (case q239 => k_is)
      (case q240 => (first | k_is | k_exc | kernel_rfl!))
      (case q241 =>
      exact trivial)))))))))
    case q_NoPlan =>
      refine' WS.clq_own KX G ?q290 ?q291 ?q292
      (case q290 => k_is)
      (case q291 => exact ⟨by (first | k_is | k_exc | kernel_rfl!), by (first | k_is | k_exc | kernel_rfl!), by (first | k_is | k_exc | kernel_rfl!), by (first | k_is | k_exc | kernel_rfl!), by (first | k_is | k_exc | kernel_rfl!), by (first | k_is | k_exc | kernel_rfl!), by (first | k_is | k_exc | kernel_rfl!)⟩)
      (case q292 => 
      refine' ⟨⟨_, WS.nsC ?q287, ?q288⟩, ?q289⟩
      (case q287 => k_is)
      (case q288 => (first | k_is | k_exc | kernel_rfl!))
      (case q289 =>
      refine' ⟨⟨_, WS.nsC ?q284, ?q285⟩, ?q286⟩
      (case q284 => k_is)
      (case q285 => (first | k_is | k_exc | kernel_rfl!))
      (case q286 =>
      refine' ⟨⟨_, WS.nsC ?q281, ?q282⟩, ?q283⟩
      (case q281 => k_is)
      (case q282 => (first | k_is | k_exc | kernel_rfl!))
      (case q283 =>
      refine' ⟨⟨_, WS.nsC ?q278, ?q279⟩, ?q280⟩
      (case q278 => k_is)
      (case q279 => (first | k_is | k_exc | kernel_rfl!))
      (case q280 =>
      refine' ⟨⟨_, WS.nsC ?q275, ?q276⟩, ?q277⟩
      (case q275 => k_is)
      (case q276 => (first | k_is | k_exc | kernel_rfl!))
      (case q277 =>
      refine' ⟨⟨_, WS.nsC ?q272, ?q273⟩, ?q274⟩
      (case q272 => k_is)
      (case q273 => (first | k_is | k_exc | kernel_rfl!))
      (case q274 =>
      refine' ⟨⟨_, WS.nsC ?q269, ?q270⟩, ?q271⟩
      (case q269 => k_is)
      (case q270 => (first | k_is | k_exc | kernel_rfl!))
      (case q271 =>
      refine' ⟨⟨_, WS.nsC ?q266, ?q267⟩, ?q268⟩
      (case q266 => k_is)
      (case q267 => (first | k_is | k_exc | kernel_rfl!))
      (case q268 =>
      exact trivial)))))))))
    case q_NoGear =>
      refine' WS.clq_own KX G ?q317 ?q318 ?q319
      (case q317 => k_is)
      (case q318 => exact ⟨by (first | k_is | k_exc | kernel_rfl!), by (first | k_is | k_exc | kernel_rfl!), by (first | k_is | k_exc | kernel_rfl!), by (first | k_is | k_exc | kernel_rfl!), by (first | k_is | k_exc | kernel_rfl!), by (first | k_is | k_exc | kernel_rfl!), by (first | k_is | k_exc | kernel_rfl!)⟩)
      (case q319 => 
      refine' ⟨⟨_, WS.nsC ?q314, ?q315⟩, ?q316⟩
      (case q314 => k_is)
      (case q315 => (first | k_is | k_exc | kernel_rfl!))
      (case q316 =>
      refine' ⟨⟨_, WS.nsC ?q311, ?q312⟩, ?q313⟩
      (case q311 => k_is)
      (case q312 => (first | k_is | k_exc | kernel_rfl!))
      (case q313 =>
      refine' ⟨⟨_, WS.nsC ?q308, ?q309⟩, ?q310⟩
      (case q308 => k_is)
      (case q309 => (first | k_is | k_exc | kernel_rfl!))
      (case q310 =>
      refine' ⟨⟨_, WS.nsC ?q305, ?q306⟩, ?q307⟩
      (case q305 => k_is)
      (case q306 => (first | k_is | k_exc | kernel_rfl!))
      (case q307 =>
      refine' ⟨⟨_, WS.nsC ?q302, ?q303⟩, ?q304⟩
      (case q302 => k_is)
      (case q303 => (first | k_is | k_exc | kernel_rfl!))
      (case q304 =>
      refine' ⟨⟨_, WS.nsC ?q299, ?q300⟩, ?q301⟩
      (case q299 => k_is)
      (case q300 => (first | k_is | k_exc | kernel_rfl!))
      (case q301 =>
      refine' ⟨⟨_, WS.nsC ?q296, ?q297⟩, ?q298⟩
      (case q296 => k_is)
      (case q297 => (first | k_is | k_exc | kernel_rfl!))
      (case q298 =>
      refine' ⟨⟨_, WS.nsC ?q293, ?q294⟩, ?q295⟩
      (case q293 => k_is)
      (case q294 => (first | k_is | k_exc | kernel_rfl!))
      (case q295 =>
      exact trivial)))))))))
    case q_NoText =>
      refine' WS.clq_own KX G ?q344 ?q345 ?q346
      (case q344 => k_is)
      (case q345 => exact ⟨by (first | k_is | k_exc | kernel_rfl!), by (first | k_is | k_exc | kernel_rfl!), by (first | k_is | k_exc | kernel_rfl!), by (first | k_is | k_exc | kernel_rfl!), by (first | k_is | k_exc | kernel_rfl!), by (first | k_is | k_exc | kernel_rfl!), by (first | k_is | k_exc | kernel_rfl!)⟩)
      (case q346 => 
      refine' ⟨⟨_, WS.nsC ?q341, ?q342⟩, ?q343⟩
      (case q341 => k_is)
      (case q342 => (first | k_is | k_exc | kernel_rfl!))
      (case q343 =>
      refine' ⟨⟨_, WS.nsC ?q338, ?q339⟩, ?q340⟩
      (case q338 => k_is)
      (case q339 => (first | k_is | k_exc | kernel_rfl!))
      (case q340 =>
      refine' ⟨⟨_, WS.nsC ?q335, ?q336⟩, ?q337⟩
      (case q335 => k_is)
      (case q336 => (first | k_is | k_exc | kernel_rfl!))
      (case q337 =>
      refine' ⟨⟨_, WS.nsC ?q332, ?q333⟩, ?q334⟩
      (case q332 => k_is)
      (case q333 => (first | k_is | k_exc | kernel_rfl!))
      (case q334 =>
      refine' ⟨⟨_, WS.nsC ?q329, ?q330⟩, ?q331⟩
      (case q329 => k_is)
      (case q330 => (first | k_is | k_exc | kernel_rfl!))
      (case q331 =>
      refine' ⟨⟨_, WS.nsC ?q326, ?q327⟩, ?q328⟩
      (case q326 => k_is)
      (case q327 => (first | k_is | k_exc | kernel_rfl!))
      (case q328 =>
      refine' ⟨⟨_, WS.nsC ?q323, ?q324⟩, ?q325⟩
      (case q323 => k_is)
      (case q324 => (first | k_is | k_exc | kernel_rfl!))
      (case q325 =>
      refine' ⟨⟨_, WS.nsC ?q320, ?q321⟩, ?q322⟩
      (case q320 => k_is)
      (case q321 => (first | k_is | k_exc | kernel_rfl!))
      (case q322 =>
      exact trivial)))))))))
    case q_NoProgram =>
      refine' WS.clq_own KX G ?q371 ?q372 ?q373
      (case q371 => k_is)
      (case q372 => exact ⟨by (first | k_is | k_exc | kernel_rfl!), by (first | k_is | k_exc | kernel_rfl!), by (first | k_is | k_exc | kernel_rfl!), by (first | k_is | k_exc | kernel_rfl!), by (first | k_is | k_exc | kernel_rfl!), by (first | k_is | k_exc | kernel_rfl!), by (first | k_is | k_exc | kernel_rfl!)⟩)
      (case q373 => 
      refine' ⟨⟨_, WS.nsC ?q368, ?q369⟩, ?q370⟩
      (case q368 => k_is)
      (case q369 => (first | k_is | k_exc | kernel_rfl!))
      (case q370 =>
      refine' ⟨⟨_, WS.nsC ?q365, ?q366⟩, ?q367⟩
      (case q365 => k_is)
      (case q366 => (first | k_is | k_exc | kernel_rfl!))
      (case q367 =>
      refine' ⟨⟨_, WS.nsC ?q362, ?q363⟩, ?q364⟩
      (case q362 => k_is)
      (case q363 => (first | k_is | k_exc | kernel_rfl!))
      (case q364 =>
      refine' ⟨⟨_, WS.nsC ?q359, ?q360⟩, ?q361⟩
      (case q359 => k_is)
      (case q360 => (first | k_is | k_exc | kernel_rfl!))
      (case q361 =>
      refine' ⟨⟨_, WS.nsC ?q356, ?q357⟩, ?q358⟩
      (case q356 => k_is)
      (case q357 => (first | k_is | k_exc | kernel_rfl!))
      (case q358 =>
      refine' ⟨⟨_, WS.nsC ?q353, ?q354⟩, ?q355⟩
      (case q353 => k_is)
      (case q354 => (first | k_is | k_exc | kernel_rfl!))
      (case q355 =>
      refine' ⟨⟨_, WS.nsC ?q350, ?q351⟩, ?q352⟩
      (case q350 => k_is)
      (case q351 => (first | k_is | k_exc | kernel_rfl!))
      (case q352 =>
      refine' ⟨⟨_, WS.nsC ?q347, ?q348⟩, ?q349⟩
      (case q347 => k_is)
      (case q348 => (first | k_is | k_exc | kernel_rfl!))
      (case q349 =>
      exact trivial)))))))))
    case y_NoProgram =>
      refine' WS.cly_own KX G ?q395 ?q396
      (case q395 => k_is)
      (case q396 => 
      refine' ⟨⟨_, WS.nsC ?q392, ?q393⟩, ?q394⟩
      (case q392 => k_is)
      (case q393 => (first | k_is | k_exc | kernel_rfl!))
      (case q394 =>
      refine' ⟨⟨_, WS.nsC ?q389, ?q390⟩, ?q391⟩
      (case q389 => k_is)
      (case q390 => (first | k_is | k_exc | kernel_rfl!))
      (case q391 =>
      refine' ⟨⟨_, WS.nsC ?q386, ?q387⟩, ?q388⟩
      (case q386 => k_is)
      (case q387 => (first | k_is | k_exc | kernel_rfl!))
      (case q388 =>
      refine' ⟨⟨_, WS.nsC ?q383, ?q384⟩, ?q385⟩
      (case q383 => k_is)
      (case q384 => (first | k_is | k_exc | kernel_rfl!))
      (case q385 =>
      refine' ⟨⟨_, WS.nsC ?q380, ?q381⟩, ?q382⟩
      (case q380 => k_is)
      (case q381 => (first | k_is | k_exc | kernel_rfl!))
      (case q382 =>
      refine' ⟨⟨_, WS.nsC ?q377, ?q378⟩, ?q379⟩
      (case q377 => k_is)
      (case q378 => (first | k_is | k_exc | kernel_rfl!))
      (case q379 =>
      refine' ⟨⟨_, WS.nsC ?q374, ?q375⟩, ?q376⟩
      (case q374 => k_is)
      (case q375 => (first | k_is | k_exc | kernel_rfl!))
      (case q376 =>
      exact trivial))))))))
    case i_Program =>
      refine' WS.dfi_mk KX G ?q397 ?q398 ?q399 ?q400 ?q401 ?q402 ?q403 ?q404 ?q405 ?q406 ?q407 ?q408 ?q409 ?q410
      (case q397 => k_is)
      (case q398 => k_is)
      (case q399 => k_is)
      (case q400 => k_is)
      (case q401 => k_is)
      (case q402 => (first | k_is | k_exc | kernel_rfl!))
      (case q403 => k_is)
      (case q404 => k_is)
      (case q405 => k_is)
      (case q406 => k_is)
      (case q407 => k_is)
      (case q408 => k_is)
      (case q409 => k_is)
      (case q410 => repeat' (first | exact trivial | (refine' ⟨?_, ?_⟩) | k_is))
    case e_NoProgram =>
      refine' WS.exc0_mk KX G ?q411 ?q412 ?q413 ?q414 ?q415 ?q416 ?q417 ?q418 ?q419 ?q420 ?q421 ?q422 ?q423 ?q424
      (case q411 => k_is)
      (case q412 => k_is)
      (case q413 => k_is)
      (case q414 => (first | k_is | k_exc | kernel_rfl!))
      (case q415 => k_is)
      (case q416 => k_is)
      (case q417 => k_is)
      (case q418 => k_is)
      (case q419 => k_is)
      (case q420 => decide +kernel)
      (case q421 => k_is)
      (case q422 => k_is)
      (case q423 => k_is)
      (case q424 => k_is)
    case w_WeaveError =>
      refine' WS.web_mk KX G ?q425 ?q426 ?q427 ?q428
      (case q425 => k_is)
      (case q426 => k_is)
      (case q427 => k_is)
      (case q428 => k_is)
    case b_all =>
      refine' WS.nb_mk KX G ?q429
      (case q429 => k_is)
    case b_bool =>
      refine' WS.nb_mk KX G ?q430
      (case q430 => k_is)
    case b_enumerate =>
      refine' WS.nb_mk KX G ?q431
      (case q431 => k_is)
    case b_int =>
      refine' WS.nb_mk KX G ?q432
      (case q432 => k_is)
    case b_isinstance =>
      refine' WS.nb_mk KX G ?q433
      (case q433 => k_is)
    case b_len =>
      refine' WS.nb_mk KX G ?q434
      (case q434 => k_is)
    case b_list =>
      refine' WS.nb_mk KX G ?q435
      (case q435 => k_is)
    case b_range =>
      refine' WS.nb_mk KX G ?q436
      (case q436 => k_is)
    case b_repr =>
      refine' WS.nb_mk KX G ?q437
      (case q437 => k_is)
    case b_sorted =>
      refine' WS.nb_mk KX G ?q438
      (case q438 => k_is)
    case b_str =>
      refine' WS.nb_mk KX G ?q439
      (case q439 => k_is)
    case b_sum =>
      refine' WS.nb_mk KX G ?q440
      (case q440 => k_is)
    case b_tuple =>
      refine' WS.nb_mk KX G ?q441
      (case q441 => k_is)
    case b_zip =>
      refine' WS.nb_mk KX G ?q442
      (case q442 => k_is)
